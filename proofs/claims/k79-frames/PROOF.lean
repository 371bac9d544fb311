import PyProof.Rows.All
import Wide.All
import OpenK.AllK
import Wide.FinOn
import KE.KStateDown
import Lean
import HandS.ForMost
import HandS.More
import HandS.IsInst
import HandS.Style
import HandS.Defaults
import HandS.Codes
import HandS.WordsExc
import HandS.Head0
import HandS.Head1
import HandS.Head2
import HandS.HeadEnd
import HandS.HeadHook1
import HandS.HeadHook2
import HandS.Exc
import HandS.ExcOwn
import HandS.ExcCtx
import HandS.ExcField
import HandS.ExcIs
import HandS.ExcInit
import HandS.ExcInitHot
import HandS.TryOnly
import HandS.TryMany
import HandS.Hot
import HandS.HotCalls
import HandS.SuiteRaise
import HandS.RaiseFrom
import HandS.HeadHook3
import HandS.HeadHook4
import PySem.Challenge.RW_bellows_k79_frames_back
set_option Elab.async false
set_option linter.all false
set_option maxRecDepth 100000
set_option maxHeartbeats 4000000
namespace Pr
open PySem PySem.Spec PyProof.Rows L2
/-! ### except (A, B, C): a suite that may raise -/
/-- what such a clause asks of the body's errors: they are named by it -/
def wTup (K : PySem.W.Frag) (cs : List Value) (ts : Addr → Value → Option Addr → TS) (D : Ends) : WX := fun cls d σ H => PySem.W.exmAny K cls cs = some true ∧ ∀ a, H a = none → ts a cls d D σ H
theorem flying_more {B h h' : Heap} {l : List Env} {a : Addr} {Z : Obj → Prop} (k : ∀ b o, h.get? b = some o → h'.get? b = some o) (f : HandSPX.FlyingZ B l a Z h) : HandSPX.FlyingZ B l a Z h' := by
  obtain ⟨f1, f2, f3, oe, vs, T, oT, ts, e1, e2, e3, e4, e5, e6, e7, e8⟩ := f
  exact ⟨fun b o e => k b o (f1 b o e), f2, Heap.FunFrames.of_keeps (fun b o e _ => ⟨o, k b o e, rfl⟩) f3, oe, vs, T, oT, ts, k _ _ e1, e2, e3, e4, e5, e6, k _ _ e7, e8⟩
section
variable {X : Cx} {body suite : List Stmt} {b₀ : Stmt} {tp pos pos' : Pos} {tb : WX → TS} {ts : Addr → Value → Option Addr → TS} {Wout : WX} {x1 x2 x3 : Str} {c1 c2 c3 : Value} {p1 p2 p3 : Pos} {kk : Nat}
theorem name_ev {x : Str} {c : Value} {p : Pos} {pins : List (Addr × Obj)} {σ : L2.St} {H : Hp} {s : Shared} {Q : Value → Shared → Prop} {E : Value → Shared → Prop} (n : Names X x c) (I : Inv X pins σ H s) (q : Q c s) : wpAny (model X.prog X.w) X.A (eval (.Name x p) X.env) Q E s := by
  obtain ⟨g, dbg, hm | ⟨hm, hv, hn⟩⟩ := n
  · exact ld_glob I g hm q dbg
  · exact ld_blt I g hm hv q hn dbg
theorem ps_try_tup (stk : X.stack = X.env :: X.outer) (own : X.env.frame = some X.env.locals) (n1 : Names X x1 c1) (n2 : Names X x2 c2) (n3 : Names X x3 c3) (out : ∀ hd : Option Value, PassesOwnAt (model X.prog X.w) (X.A.mark hd) X.A X.env X.xe) (tk : L2.Takes X Wout)
    (hb : ∀ (W : WX) (pn : List (Addr × Obj)) (xe : Value → Shared → Prop), L2N.Takes (X.tr pn xe) W → PassesOwn (model X.prog X.w) X.A X.env xe → PSs (X.tr pn xe) body (tb W))
    (hsu : ∀ (a : Addr) (oe : Obj) (cls : Value) (d : Option Addr) (pn : List (Addr × Obj)), L2N.Zn cls d oe → (∃ vs, oe.data = .fields vs) → L2.Takes (L2H.suiteX X a ((a, oe) :: pn)) Wout → L2H.HotC (L2H.suiteX X a ((a, oe) :: pn)) → PSs (L2H.suiteX X a ((a, oe) :: pn)) (b₀ :: suite) (ts a cls d)) :
    PS X (.Try body [.ExceptHandler (some (.Tuple [.Name x1 p1, .Name x2 p2, .Name x3 p3] kk tp)) none (b₀ :: suite) pos'] [] [] pos) (fun D σ H => tb (wTup X.K [c1, c2, c3] ts D) D σ H) := by
  refine ⟨fun pins s σ H D I h => wpAny_Try_except ?_⟩
  have ok := I.ok
  have frames : X.A.frames = some (X.env :: X.outer) := by rw [ok.frames, stk]
  have away : ∀ {G B : Heap} {a : Addr} {o : Obj} {vs : Array Value}, G.FunFrames B (X.env :: X.outer) → G.get? a = some o → o.data = .fields vs → a ≠ X.env.locals ∧ a ∉ X.fs := fun {G B a o vs} ff e dd => by
    have no : a ∉ frs (X.env :: X.outer) := fun mem => by
      obtain ⟨_, o2, e2, hn⟩ := ff.mem mem
      rw [e] at e2
      cases e2
      exact hn _ dd
    refine ⟨fun z => no (List.mem_filterMap.mpr ⟨X.env, List.mem_cons_self, by rw [own, z]⟩), fun mem => ?_⟩
    obtain ⟨v, hv, q⟩ := List.mem_filterMap.mp mem
    exact no (List.mem_filterMap.mpr ⟨v, List.mem_cons_of_mem _ hv, q⟩)
  refine wpAny_mono ((hb (wTup X.K [c1, c2, c3] ts D) (X.pn ++ pins) (fun u s1 => wpAny (model X.prog X.w) X.A (noteFrame u X.env) (fun _ s2 => wpAny (model X.prog X.w) X.A (setFlight u none) (fun _ s3 =>
    wpAny (model X.prog X.w) X.A (handleBy u X.env [.ExceptHandler (some (.Tuple [.Name x1 p1, .Name x2 p2, .Name x3 p3] kk tp)) none (b₀ :: suite) pos']) (SP X pins D) X.xe s3) X.xe s2) X.xe s1) ?_ PassesOwn.looking).run [] s σ H D (I.toTry _) h) ?_ (fun _ _ z => z)
  · rintro u s' ⟨a, B, sI, pins', σ', H', cls, d, rfl, Jt, nb, up, sky, na, os, ag, hx, hw⟩
    have J := Jt.ofTry (pins := pins) ok
    rw [show (X.tr (X.pn ++ pins) _).stack = X.env :: X.outer from stk] at sky
    refine L2N.Sky.land L2N.Zn.steady frames own sky fun h3 fl3 up3 => ?_
    have J3 : Inv X pins σ' H' { s' with heap := h3 } := J.landed nb fl3.1 (up.trans up3) os ag
    obtain ⟨oe, vs, he, hz, hd⟩ := fl3.there
    have S3 := J3.suite he hd na (away fl3.2.2.1 he hd).1 (away fl3.2.2.1 he hd).2
    refine wpAny_handleBy_cons (codeAny_handlers_test (wpAny_Tuple ?_)) (fun q => by cases q)
    refine wpAny_items_cons (name_ev (X := X.suite a ((a, oe) :: (X.pn ++ pins))) n1 S3 ?_)
    refine wpAny_items_cons (name_ev (X := X.suite a ((a, oe) :: (X.pn ++ pins))) n2 S3 ?_)
    refine wpAny_items_cons (name_ev (X := X.suite a ((a, oe) :: (X.pn ++ pins))) n3 S3 ?_)
    refine wpAny_items_nil ⟨by size_fits, ?_⟩
    have more : ∀ q o, h3.get? q = some o → (h3.push { cls := .type "tuple", data := .seq [c1, c2, c3].toArray }).get? q = some o := fun _ _ z => Heap.get?_push_of_some _ z
    have LT : PySem.W.Looks (model X.prog X.w) h3 (typeOf (.ref a)) cls := fun A Q E s k q => wpAny_typeOf_ref (k _ _ he) (by rw [hz.1]; exact q)
    refine (PySem.W.exm_tup3 (J3.kIn.keeps more) (LT.keeps more) (Heap.get?_push_size h3 rfl) hx).here ?_
    refine codeAny_handlers_suite ?_
    refine HandSPX.lands_againZ (flying_more more fl3) fun h4 fl4 up4 => ?_
    have J4 : Inv X pins σ' H' { s' with heap := h4 } := J.landed nb fl4.1 (((up.trans up3).trans (Heap.UpToSlots.of_keeps more)).trans up4) os ag
    obtain ⟨oe4, vs4, he4, hz4, hd4⟩ := fl4.there
    have S4 := J4.suite he4 hd4 na (away fl4.2.2.1 he4 hd4).1 (away fl4.2.2.1 he4 hd4).2
    have tkS : L2.Takes (L2H.suiteX X a ((a, oe4) :: (X.pn ++ pins))) Wout := by
      rintro u2 s2 ⟨a2, B2, sI2, pn2, σ2, H2, cls2, d2, e2, I2, r⟩
      exact tk u2 s2 ⟨a2, B2, sI2, pins, σ2, H2, cls2, d2, e2, L2H.unsuiteX I2 ok, r⟩
    refine wpAny_mono ((hsu a oe4 cls d (X.pn ++ pins) hz4 ⟨_, hd4⟩ tkS ⟨(a, oe4), ⟨rfl, vs4, hd4, hz4.2.2 vs4 hd4⟩, List.mem_cons_self⟩).run [] _ _ H' _ (L2H.suiteX_of S4) (hw a na)) (fun f s6 q => ?_) fun u6 s6 z => out (some (.ref a)) u6 s6 z
    cases f with
    | ret u => obtain ⟨v6, σ6, H6, S6, r6, q6⟩ := q; exact ⟨v6, σ6, H6, L2H.unsuiteX S6 ok, r6, q6⟩
    | next => obtain ⟨σ6, H6, S6, q6⟩ := q; exact ⟨σ6, H6, L2H.unsuiteX S6 ok, q6⟩
    | brk => obtain ⟨σ6, H6, S6, q6⟩ := q; exact ⟨σ6, H6, L2H.unsuiteX S6 ok, q6⟩
    | cont => obtain ⟨σ6, H6, S6, q6⟩ := q; exact ⟨σ6, H6, L2H.unsuiteX S6 ok, q6⟩
  · rintro f s1 q
    cases f with
    | ret u => obtain ⟨v6, σ6, H6, S6, r6, q6⟩ := q; exact ⟨v6, σ6, H6, S6.ofTry ok, r6, q6⟩
    | next => obtain ⟨σ6, H6, S6, q6⟩ := q; exact wpAny_execs_nil ⟨σ6, H6, S6.ofTry ok, q6⟩
    | brk => obtain ⟨σ6, H6, S6, q6⟩ := q; exact ⟨σ6, H6, S6.ofTry ok, q6⟩
    | cont => obtain ⟨σ6, H6, S6, q6⟩ := q; exact ⟨σ6, H6, S6.ofTry ok, q6⟩
end
end Pr
namespace Pr
open PySem PySem.Spec PySem.Calls PyProof.Rows L2
open PySem.W (clsIn findIn specialIn takesIn subIn hasDictIn mroIn typeIn findObj looks_findIn looks_find looks_subIn any_some)
/-! ### isinstance(e, C), e a caught error that has a dict -/
section
variable {prog : Program} {w : World} {A : Around} {s : Shared} {K : PySem.W.Frag} {e D : Addr} {oe : Obj} {od : Option Obj}
theorem found_class {C : Addr} {nm : Str} {u g : Value} (c : (clsIn K C).isSome = true) (a : findIn K (.ref C) nm = some (some u)) (get : specialIn K u "__get__" = some (some g)) (t : takesIn K u = some true) : findObj K C od nm = some (.bind g u) := by
  obtain ⟨cd, e1⟩ := Option.isSome_iff_exists.mp c
  simp [findObj, e1, a, get, t]
theorem class_of_err {Q : Option Value → Shared → Prop} {Ex : Value → Shared → Prop} (T : L2.ExcC K D) (X : K.In s.heap) (I : PySem.W.InstAt s.heap e oe D od) (q : Q (some (.ref D)) { s with toks := s.toks + 1 }) :
    wpAny (model prog w) A (getAttr? (.ref e) "__class__") Q Ex s := by
  have fo : findObj K D od "__class__" = some (.bind (.builtin "getset_descriptor.__get__") (.builtin "object.__class__")) :=
    found_class (by obtain ⟨cd, z, _⟩ := any_some T.hd; rw [z]; rfl) T.ha T.hn T.ht
  obtain ⟨hh, gg, dd, tt, oo⟩ := s
  have ty := I.type (M := model prog w)
  have a1 := looks_findIn (M := model prog w) X T.hg
  have a2 := looks_findIn (M := model prog w) X T.hk
  have a3 := looks_find (M := model prog w) X I fo
  have isE : PySem.W.Looks (model prog w) hh (isInstance (.ref e) (.type "BaseException")) true := ty.andThen (looks_subIn X T.hs)
  have no : (onTheHeap (Value.ref D) && Value.builtin "BaseException.__getattribute__" == Value.builtin "object.__getattribute__") = false := by
    rw [show (Value.builtin "BaseException.__getattribute__" == Value.builtin "object.__getattribute__") = false from by decide +kernel]; rfl
  unfold getAttr? getAttrBy? getAttrBy
  refine wpAny_bind (wpAny_mkText (wpAny_bind (wpAny_attempt (wpAny_holding (wpAny_bind (ty.at (wpAny_bind (a1.at ?_))))))))
  show wpAny _ _ (if (onTheHeap (Value.ref D) && Value.builtin "BaseException.__getattribute__" == Value.builtin "object.__getattribute__") = true then _ else _) _ _ _
  rw [no, if_neg Bool.false_ne_true]
  unfold getAttrByItsOwn hookBefore
  refine wpAny_bind ?_
  rw [if_pos (show onTheHeap (Value.ref D) = true from rfl)]
  refine a2.at (wpAny_bind (wpAny_attempt (wpAny_holding ?_)))
  unfold callGetattribute
  rw [show (false && onTheHeap (Value.builtin "BaseException.__getattribute__")) = false from rfl, if_neg Bool.false_ne_true]
  unfold boundAndCalled
  rw [PySem.F.excAttr_ValueError.ga.bind (.ref e)]
  refine wpAny_bind (wpAny_pure ?_)
  show wpAny _ _ (call (.builtin "BaseException.__getattribute__") [.ref e, .str "__class__" tt]) _ _ _
  refine wpAny_call (codeAny_call_builtin PySem.F.excAttr_ValueError.ga.plain PySem.F.entry_bexc_ga ?_)
  refine @PySem.W.check_slot (model prog w) _ _ ⟨hh, gg, dd, tt + 1, oo⟩ "BaseException.__getattribute__" "BaseException" "__getattribute__" (.ref e) [.str "__class__" tt] [] _ (by decide +kernel) (by decide +kernel) isE (PySem.F.args_bexc_ga (.ref e) (.str "__class__" tt)) ?_
  unfold Builtin.«object.__getattribute__»
  refine wpAny_bind (wpAny_of_eq (a := ((Value.ref e : Value), [Value.str "__class__" tt])) (by first | rfl | (simp only [slotArgs]; rfl)) ?_)
  refine wpAny_bind (wpAny_pure (wpAny_bind (ty.at (wpAny_bind (a3.at ?_)))))
  show wpAny _ _ (holding [Value.builtin "object.__class__"] (call (.builtin "getset_descriptor.__get__") [.builtin "object.__class__", .ref e, .ref D]) >>= ret) _ _ _
  refine wpAny_bind (wpAny_holding (wpAny_call (PySem.W.class_get (s := ⟨hh, gg, dd, tt + 1, oo⟩) (ox := oe) (od := od) X I T.hm (wpAny_pure ?_))))
  show wpAny _ _ (handedOut (.ref D)) _ _ _
  rw [PySem.W.handedOut_of (v := .ref D) rfl]
  first
    | exact wpAny_pure (wpAny_pure q)
    | exact wpAny_pure q
    | exact wpAny_pure (wpAny_bind (wpAny_pure (wpAny_pure q)))
theorem kit_err (T : L2.ExcC K D) : PySem.W.KitX K (.ref e) (.ref D) (fun h => PySem.W.InstAt h e oe D od) := by
  obtain ⟨cd, z, _⟩ := any_some T.hd
  unfold clsIn at z
  split at z
  · rename_i c' d' cd' sl' ho
    refine ⟨fun _ _ _ I => I.type, fun _ _ X _ => ?_, fun h tp dd its n sl X htp => Bool.eq_false_iff.mpr fun q => ?_, fun X I k => class_of_err T X I k⟩
    · intro A' Q' E' s' k q
      unfold isType loadHead
      exact wpAny_bind (wpAny_loadPart (k _ _ (X _ _ ho)) (wpAny_pure q))
    · have ed : D = tp := Value.ref.inj (beq_iff_eq.mp q)
      subst ed
      cases (X _ _ ho).symm.trans htp
  · cases z
end
/-- isinstance(e, c) in the suite that holds e -/
def rIsErr (K : PySem.W.Frag) (a : Addr) (cls : Value) : List V → Hp → VK → Prop := fun xs H Q => ∃ (D : Addr) (c : V) (cv : Value) (b : Bool), cls = .ref D ∧ L2.ExcC K D ∧ xs = [.ref a, c] ∧ (∀ u, RelV c u → u = cv) ∧ PySem.W.kitOne K (.ref D) cv = some b ∧ Q (.bl b) H
def rIsE2 (K : PySem.W.Frag) (a : Addr) (cls : Value) (d : Option Addr) : List V → Hp → VK → Prop := fun xs H Q => (match d with | none => True | some dx => ∃ fs, H dx = some (.xd fs)) ∧ rIsErr K a cls xs H Q
theorem call_isErr {X : Cx} {a : Addr} {cls : Value} {d : Option Addr} {oe : Obj} {pn : List (Addr × Obj)} (hz : Zc cls d oe) (hf : ∃ vs, oe.data = .fields vs) :
    CallR (X.suite a ((a, oe) :: pn)) (.builtin "isinstance") (rIsE2 X.K a cls d) := by
  rintro pins s σ H xs us Q I r ⟨hd, D, c, cv, b, rfl, T, rfl, hcv, e1, q⟩
  cases r with
  | cons rx rr =>
    cases rr with
    | cons rt rr =>
      cases rr
      cases rx
      cases hcv _ rt
      obtain ⟨hget, _⟩ := I.pin (a, oe) (List.mem_append.mpr (.inl List.mem_cons_self))
      obtain ⟨vs, hv⟩ := hf
      obtain ⟨oc, odd, oda, osl⟩ := oe
      obtain ⟨h1, h2⟩ := hz
      dsimp only at h1 h2 hv
      subst h1 h2 hv
      have J : ∃ od, PySem.W.InstAt s.heap a ⟨.ref D, odd, .fields vs, osl⟩ D od := by
        cases odd with
        | none => exact ⟨none, hget, rfl, rfl, trivial⟩
        | some dx =>
          obtain ⟨fs, hx⟩ := hd
          obtain ⟨o, ho⟩ := objOk_get (I.hok dx _ hx)
          exact ⟨some o, hget, rfl, rfl, ho⟩
      obtain ⟨od, J⟩ := J
      exact PySem.W.kia_one (kit_err T) I.kIn J e1 (fun z => nomatch z) fun tk => ⟨.bl b, H, I.kept (t' := tk) fun _ _ z => z, rfl, q⟩
end Pr
namespace Pr
open PySem PySem.Spec PyProof.Rows L2
/-! ### own error classes: BellowsError over ValueError, its __init__ sets at -/
def oexcB (K : PySem.W.Frag) (C : Addr) : Bool := match K.lookup C with
  | some ⟨.type "type", _, .cls cd, sl⟩ => (match cd.mro, sl.toList with
    | .ref c :: bm, [_, _, _, _, some (.builtin n), _] => c == C && (n == "ValueError.__new__" && (cd.hasDict && (!cd.hasDel && PySem.HandSPX.refsVE bm)))
    | _, _ => false)
  | _ => false
theorem oexcB_ok {K : PySem.W.Frag} {C : Addr} (h : oexcB K C = true) : ∃ nm q N bs bm sn sub ab col dd k0 k1 k2 k3 k5, K.lookup C = some (excClassObj nm q C N bs bm true sn sub ab col dd k0 k1 k2 k3 k5 "ValueError.__new__") ∧ PySem.HandSPX.refsVE bm = true := by
  unfold oexcB at h
  split at h
  · rename_i dd cd sl ho
    split at h
    · rename_i c bm k0 k1 k2 k3 n k5 hm hs
      obtain ⟨nm, bs, mro, ns, qn, hd, sn, sub, ab, col, del⟩ := cd
      simp only [Bool.and_eq_true, beq_iff_eq, Bool.not_eq_true'] at h
      obtain ⟨rfl, rfl, rfl, rfl, hr⟩ := h
      dsimp only at hm
      subst hm
      obtain ⟨l⟩ := sl
      simp only at hs
      subst hs
      exact ⟨nm, qn, ns, bs, bm, sn, sub, ab, col, dd, k0, k1, k2, k3, k5, ho, hr⟩
    · cases h
  · cases h
/-- what is said of an error class, fI its __init__ -/
structure Er (K : PySem.W.Frag) (x : Str) (fI : Addr) : Prop where
  o : OexC K (He.ga K x)
  i : PySem.W.findIn K (.ref (He.ga K x)) "__init__" = some (some (.ref fI))
  ti : PySem.W.typeIn K (.ref fI) = some (.type "function")
  at_ : PySem.W.findIn K (.ref (He.ga K x)) "at" = some none
  xf : XfC K (He.ga K x)
  ic : L2.ExcC K (He.ga K x)
def erB (K : PySem.W.Frag) (x : Str) (fI : Addr) : Bool :=
  oexcB K (He.ga K x) && (He.eqO (PySem.W.findIn K (.ref (He.ga K x)) "__setattr__") (some (some (.builtin "object.__setattr__"))) && (decide (PySem.W.typeIn K (.ref (He.ga K x)) = some (.type "type")) && (PySem.W.keepIn K (.ref (He.ga K x)) &&
  (He.eqO (PySem.W.findIn K (.ref (He.ga K x)) "__init__") (some (some (.ref fI))) && (decide (PySem.W.typeIn K (.ref fI) = some (.type "function")) && (He.eqO (PySem.W.findIn K (.ref (He.ga K x)) "at") (some none) && (xfB K (He.ga K x) &&
  (He.eqO (PySem.W.findIn K (.ref (He.ga K x)) "__class__") (some (some (.builtin "object.__class__"))) && (He.eqO (PySem.W.specialIn K (.builtin "object.__class__") "__get__") (some (some (.builtin "getset_descriptor.__get__"))) &&
  (decide (PySem.W.takesIn K (.builtin "object.__class__") = some true) && decide (PySem.W.mroIn K (He.ga K x) (.type "object") = some true)))))))))))
theorem erB_ok {K : PySem.W.Frag} {x : Str} {fI : Addr} (h : erB K x fI = true) : Er K x fI := by
  unfold erB at h
  obtain ⟨h1, h⟩ := He.ba h
  obtain ⟨h2, h⟩ := He.ba h
  obtain ⟨h3, h⟩ := He.ba h
  obtain ⟨h4, h⟩ := He.ba h
  obtain ⟨h5, h⟩ := He.ba h
  obtain ⟨h6, h⟩ := He.ba h
  obtain ⟨h7, h⟩ := He.ba h
  obtain ⟨h8, h⟩ := He.ba h
  obtain ⟨h9, h⟩ := He.ba h
  obtain ⟨h10, h⟩ := He.ba h
  obtain ⟨h11, h12⟩ := He.ba h
  have xf := xfB_ok h8
  exact ⟨⟨oexcB_ok h1, He.eqO_ok h2, xf.exC, of_decide_eq_true h3, h4⟩, He.eqO_ok h5, of_decide_eq_true h6, He.eqO_ok h7, xf, ⟨xf.ga, xf.gg, xf.exC, xf.hdC, He.eqO_ok h9, He.eqO_ok h10, of_decide_eq_true h11, of_decide_eq_true h12⟩⟩
/-- ValueError's own __init__ -/
def veB (K : PySem.W.Frag) : Bool := match PySem.W.findCls K (.type "ValueError") (.type "type") "__init__" with
  | some (.val (.builtin n)) => n == "ValueError.__init__"
  | _ => false
theorem veB_ok {K : PySem.W.Frag} (h : veB K = true) : PySem.W.findCls K (.type "ValueError") (.type "type") "__init__" = some (.val (.builtin "ValueError.__init__")) := by
  unfold veB at h
  split at h
  · rename_i n e
    rw [e, beq_iff_eq.mp h]
  · cases h
/-! ### the readings -/
/-- an error of the class named x, at i, is let out -/
def Errs (K : PySem.W.Frag) (E : XK) (x : Str) (i : Int) (H : Hp) : Prop := ∀ d, H d = none → E (.ref (He.ga K x)) (some d) (upd H d (.xd [("at", .int i)]))
def sp_init (K : PySem.W.Frag) : Sp := fun vs H Q _ => ∃ (a C : Addr) (v : V), vs = [.ref a, v] ∧ OexC K C ∧ PySem.W.findIn K (.ref C) "at" = some none ∧ H a = some (exo a C none) ∧ ∀ dx, H dx = none → dx ≠ a → Q .non (upd (upd H dx (exd dx [("at", v)])) a (exo a C (some dx)))
def t_init (K : PySem.W.Frag) : TS := tSeq (tDrop (tVeI K (tCons (tVar 0) (tCons (tC (.str "bellows error")) tNil)))) (tOst K "at" (tVar 0) (tVar 1))
theorem len_init {K : PySem.W.Frag} {vs H Q E} (h : sp_init K vs H Q E) : vs.length = 2 := by
  obtain ⟨_, _, _, rfl, _⟩ := h; rfl
theorem pure_init {K : PySem.W.Frag} (vs : List V) (H : Hp) (Q : VK) (E : XK) (h : sp_init K vs H Q E) : t_init K { nx := fun _ H' => Q .non H', rt := Q } (start ["self", "at"] vs) H := by
  obtain ⟨a, C, v, rfl, o, n, e, q⟩ := h
  refine ⟨_, rfl, ⟨a, C, _, rfl, by decide, o, e, ?_⟩⟩
  refine ⟨_, rfl, _, rfl, a, C, rfl, o, n, .inl ⟨e, q⟩⟩
/-- raise x(e) -/
abbrev tRaise (K : PySem.W.Frag) (x : Str) (W : WX) (ta : TA) : TS := fun _ σ H => tMkO (He.ga K x) (sp_init K) [] ta σ H fun cls d H' => W cls d σ H'
abbrev wE (E : XK) : WX := fun cls d _ H => E cls d H
theorem del_upd {H : Hp} {a d : Addr} {o p q u : HO} (ha : H a = none) (hd : d ≠ a) : upd (del (upd (upd (upd H a o) d p) a q) a) d u = upd H d u := by
  funext b
  by_cases h1 : b = d
  · rw [h1, upd_same, upd_same]
  · rw [upd_ne h1, upd_ne h1]
    by_cases h2 : b = a
    · rw [h2, del_same, ha]
    · rw [del_ne h2, upd_ne h2, upd_ne h1, upd_ne h2]
def RaiseK (K : PySem.W.Frag) (x : Str) (vs : List V) (H1 : Hp) (Q : XK) : Prop := vs.length ≤ 1000 ∧ ∀ a, H1 a = none → sp_init K (.ref a :: (vs ++ [])) (upd H1 a (exo a (He.ga K x) none))
  (fun v H2 => v = .non ∧ ∃ (d : Addr) (fs : List (Str × V)), H2 a = some (exo a (He.ga K x) (some d)) ∧ H2 d = some (exd d fs) ∧ H1 d = none ∧ Q (.ref (He.ga K x)) (some d) (upd (del H2 a) d (.xd fs))) (fun _ _ _ => False)
theorem x_raise {K : PySem.W.Frag} {x : Str} {W : WX} {ta : TA} {D : Ends} {σ : L2.St} {H : Hp} (h : ta σ H fun vs H1 => RaiseK K x vs H1 fun cls d H' => W cls d σ H') : tRaise K x W ta D σ H := h
/-- the error's class, its dict: {"at": i} -/
theorem x_raiseK {K : PySem.W.Frag} {x : Str} {fI : Addr} {Q : XK} {v : V} {H : Hp} (T : Er K x fI) (q : ∀ d, H d = none → Q (.ref (He.ga K x)) (some d) (upd H d (.xd [("at", v)]))) : RaiseK K x [v] H Q := by
  refine ⟨(by show 1 ≤ 1000; decide), fun a ha => ⟨a, _, v, rfl, T.o, T.at_, upd_same, fun dx hdx hne => ⟨rfl, dx, [("at", v)], upd_same, ?_, ?_, ?_⟩⟩⟩
  · rw [upd_ne hne, upd_same]
  · rw [upd_ne hne] at hdx
    exact hdx
  · rw [del_upd ha hne]
    exact q dx (by rw [upd_ne hne] at hdx; exact hdx)
end Pr
namespace Pr
open PySem PySem.Spec PyProof.Rows L2
/-! ### rules -/
/-- x(e), its context None -/
theorem pmk_errN {X : Cx} {CX : CXT} {x : Str} {e : Expr} {es : List Expr} {ta : TA} {p pos : Pos} {C fI : Addr} {k : Nat} {fd : FuncData} {ps : List Str} {sp : Sp} (T : OexC X.K C) (iC : PySem.W.findIn X.K (.ref C) "__init__" = some (some (.ref fI)))
    (tI : PySem.W.typeIn X.K (.ref fI) = some (.type "function")) (F1 : FnOk X.prog X.w X.K X.mg X.base CX k fI fd ps sp) (hr : Room (k + 1) X.A) (hb : Binds X.K fd ps []) (hx : Passes CX X (fun _ _ _ => False)) (hg : Gl X x) (hm : X.mg x = some (.ref C))
    (ha : PA X (e :: es) ta) (hdb : (x == ("__debug__" : Str)) = false := by decide) (he : starEach (e :: es) X.env = (false, eval e X.env) :: starEach es X.env := by rfl) (hpl : (backTo pos (starEach es X.env)).any (·.1) = false := by rfl) :
    L2N.PMk X (.Call (.Name x p) (e :: es) [] pos) (tMkO C sp [] ta) := by
  intro pins s σ H Q I h
  obtain ⟨nm, q, N, bs, bm, sn, sub, ab, col, dd, k0, k1, k2, k3, k5, hC, hbm⟩ := T.cls
  refine wpAny_Call_Name_kw (ld_glob I hg hm (PySem.W.callWith_K (h₀ := X.base) I.ok.mod.kin T.kC (thn (ha.run pos pins s σ H _ I h) fun us s1 hh => ?_) he hpl) hdb)
  obtain ⟨vs, H1, I1, r1, hz, q1⟩ := hh
  refine ⟨I1.kIn, ?_⟩
  show wpAny _ _ (call (.ref C) us) _ _ _
  obtain ⟨hp, g, dr, tk, os⟩ := s1
  generalize hn : hp.objs.size + 1 = n
  have big : hp.objs.size ≤ n := by omega
  have free : H1 n = none := I1.hok.fresh big
  have hq := q1 n free
  rw [List.append_nil] at hq
  have grow : ∀ b o, hp.get? b = some o → ((hp.push (PySem.W.kdv_tup us)).push (PySem.HandSPX.excO C hp.objs.size)).get? b = some o := fun b o z => Heap.get?_push_of_some _ (Heap.get?_push_of_some _ z)
  have atn : ((hp.push (PySem.W.kdv_tup us)).push (PySem.HandSPX.excO C hp.objs.size)).get? n = some (PySem.HandSPX.excO C hp.objs.size) := by rw [← hn]; heap_get
  have I2 : Inv X pins σ (upd H1 n (exo n C none)) ⟨(hp.push (PySem.W.kdv_tup us)).push (PySem.HandSPX.excO C hp.objs.size), g, dr, tk, os⟩ :=
    I1.laid (t' := tk) (a := n) (o := exo n C none) (h' := (hp.push (PySem.W.kdv_tup us)).push (PySem.HandSPX.excO C hp.objs.size)) grow big (exo_ok atn)
  have r2 : Vals (V.ref n :: vs) (Value.ref n :: us) := .cons rfl r1
  have ln : (Value.ref n :: us).length = ps.length := by
    rw [← F1.len _ _ _ _ hq]
    exact r2.length.symm
  have b2 := hb _ (Value.ref n :: us) I2.kIn (by rw [List.append_nil]; exact ln)
  rw [List.append_nil] at b2
  have many : us.length ≤ sizeLine := by
    rw [← Paired.length r1, sizeLine_eq]
    omega
  have body := codeAny_mono (F1.run _ X.stack _ _ ⟨Value.ref n :: us, []⟩ (Value.ref n :: us) _ _ (fun _ _ _ => False) (hr.make C us []) (I2.env0.make C us []) b2 r2 hq) (R' := fun r s' => match r with
    | .error er => X.xe er s'
    | .ok (.ret u) => u = .none ∧ L2N.MkP X pins σ Q (.ref n) s'
    | .ok _ => False) fun r s' hq' => ?_
  · subst hn
    refine wpAny_call (PySem.HandSPX.call_own F.excBase_ValueError (fun Y => PySem.HandSPX.refsVE_contains Y bm hbm) (I1.kIn _ _ hC) (PySem.W.looks_findIn I1.kIn iC) (fun self => PySem.W.bind_fn I1.kIn self tI) many (codeAny_mono body fun r s' z => ?_))
    cases r with
    | error er => exact z
    | ok fl =>
      cases fl with
      | ret u => exact z
      | next => exact z
      | brk => exact z
      | cont => exact z
  · cases r with
    | error er => exact hx pins σ _ _ er s' I2 hq'
    | ok fl =>
      cases fl with
      | ret u =>
        obtain ⟨v, H2, os2, bare2, un2, hok2, rv, ev, d, fs, ea, ed, hd1, q2⟩ := hq'
        subst ev
        obtain ⟨h2, g2, d2, t2, os'⟩ := s'
        obtain ⟨t0, G, J, kG, ge, hoe, na⟩ := mk_end0 (d2 := d2) (t2 := t2) I1 big grow un2 hok2 os2 bare2 ea ed hd1
        exact ⟨rv, n, _, _, ⟨G, g2, d2, t2, os'⟩, _, .ref C, some d, rfl, J, kG, ge, hoe, ⟨rfl, rfl, fun vs z => by cases z; rfl⟩, rfl, rfl, na, rfl, bare2, raises_own T.exC T.tyC, q2⟩
      | next => exact hq'.elim
      | brk => exact hq'.elim
      | cont => exact hq'.elim
/-- e.f, e the name of the error that the suite holds -/
def tXfV (K : PySem.W.Frag) (i : Nat) (a : Addr) (cls : Value) (d : Option Addr) (f : Str) : TE := fun σ H Q => σ[i]? = some (some (.ref a)) ∧ ∃ C : Addr, cls = .ref C ∧ XfC K C ∧ PySem.W.findIn K (.ref C) f = some none ∧
  ∃ (dd : Addr) (fs : List (Str × V)) (v : V), d = some dd ∧ H dd = some (.xd fs) ∧ fs.lookup f = some v ∧ Q v H
theorem pe_xfv {X : Cx} {a : Addr} {oe : Obj} {cls : Value} {d : Option Addr} {pn : List (Addr × Obj)} {x : Str} {i : Nat} {pos p : Pos} {n : Str} (hz : Zc cls d oe) (hf : ∃ vs, oe.data = .fields vs) (he : PE (X.suite a ((a, oe) :: pn)) (.Name x p) (tVar i))
    (hb : attributeBase (.Name x p) n X.env (eval (.Name x p) X.env) = eval (.Name x p) X.env := by rfl) : PE (X.suite a ((a, oe) :: pn)) (.Attribute (.Name x p) n pos) (tXfV X.K i a cls d n) :=
  ⟨fun pins s σ H Q I ⟨h1, C, h2, T, hno, dd, fs, v, h3, h4, h5, q⟩ => (pe_xf T hno hz hf he hb).run pins s σ H Q I ⟨_, h1, rfl, h2, dd, fs, v, h3, h4, h5, q⟩⟩
def tTryTup (K : PySem.W.Frag) (cs : List Value) (tb : WX → TS) (ts : Addr → Value → Option Addr → TS) : TS := fun D σ H => tb (wTup K cs ts D) D σ H
def tTryAs (K : PySem.W.Frag) (c : Value) (i : Nat) (tb : WX → TS) (ts : Addr → Value → Option Addr → TS) (Wout : WX) : TS := fun D σ H => tb (wAs K c i ts Wout D) D σ H
def tTryOnly (K : PySem.W.Frag) (c : Value) (tb : WX → TS) (ts : Addr → Value → Option Addr → TS) (Wout : WX) : TS := fun D σ H => tb (wOnly K c ts Wout D) D σ H
abbrev W0 : WX := fun _ _ _ _ => False
/-- an error whose context is None, where any is taken -/
theorem air {X : Cx} {W : WX} {u : Value} {s' : Shared} (x : L2N.XE X W u s') : L2.XE X W u s' := by
  obtain ⟨a, B, sI, pins, σ, H, cls, d, e, I, nb, up, sky, r⟩ := x
  refine ⟨a, B, sI, pins, σ, H, cls, d, e, I, nb, up, ?_, r⟩
  rcases sky with ⟨h1, h2, h3, oe, vs, h4, h5, h6⟩ | ⟨h1, h2, h3, h4⟩ | ⟨h1, h2, h3, h4⟩
  · exact .inl ⟨h1, h2, h3, oe, vs, h4, h5.zc, h6⟩
  · exact .inr (.inl ⟨h1, h2, h3, L2H.tracedZ_imp (fun _ z => z.zc) h4⟩)
  · exact .inr (.inr ⟨h1, h2, h3, L2H.tracedZ_imp (fun _ z => z.zc) h4⟩)
theorem takesN {X : Cx} {W : WX} (t : L2.Takes X W) : L2N.Takes X W := fun u s' x => t u s' (air x)
end Pr
/-! my own words: readings' names, one lemma a reading, the heap -/
namespace Pr
open PySem L2
abbrev rPl : R2 := rI0 fun i j => .int (i + j)
abbrev rMi : R2 := rI0 fun i j => .int (i - j)
abbrev rMu : R2 := rI CMul fun i j => .int (i * j)
abbrev rPo : R2 := rI CPow fun i j => .int (i ^ j.toNat)
abbrev rShl : R2 := rI CPow fun i j => .int (i * 2 ^ j.toNat)
abbrev rShr : R2 := rI (fun _ j => 0 ≤ j) fun i j => .int (i / 2 ^ j.toNat)
abbrev rMo : R2 := rI (fun _ j => 0 < j) fun i j => .int (i % j)
abbrev rDi : R2 := rI CDiv fun i j => .int (i / j)
abbrev rBand : R2 := rI0 fun i j => .int (Builtin.bitAnd i j)
abbrev rBor : R2 := rI0 fun i j => .int (Builtin.bitOr i j)
abbrev rBxor : R2 := rI0 fun i j => .int (Builtin.bitXor i j)
abbrev rLt : R2 := rI0 fun i j => .bl (decide (i < j))
abbrev rLe : R2 := rI0 fun i j => .bl (decide (i ≤ j))
abbrev rGt : R2 := rI0 fun i j => .bl (decide (j < i))
abbrev rGe : R2 := rI0 fun i j => .bl (decide (j ≤ i))
abbrev rNeg : V → Hp → VK → Prop := rU fun i => .int (-i)
def rIsNn : R2 := fun x y H Q => y = .non ∧ Q (.bl (decide (x = .non))) H
def rNotNn : R2 := fun x y H Q => y = .non ∧ Q (.bl (!decide (x = .non))) H
def rLenSq (K : PySem.W.Frag) : List V → Hp → VK → Prop := fun xs H Q => ∃ p ys, xs = [.ref p] ∧ (SqL K H p ys ∨ SqT K H p ys) ∧ Q (.int ys.length) H
def rLenDk : List V → Hp → VK → Prop := fun xs H Q => ∃ a kvs, xs = [V.ref a] ∧ H a = some (.dK kvs) ∧ Q (.int kvs.length) H
def rInt1 : List V → Hp → VK → Prop := fun xs H Q => (∃ i, xs = [.int i] ∧ Q (.int i) H) ∨ ∃ k, xs = [.bl k] ∧ Q (.int (if k then 1 else 0)) H
def rAbs : List V → Hp → VK → Prop := fun xs H Q => ∃ i, xs = [.int i] ∧ Q (.int (if i < 0 then -i else i)) H
def rMin2 : List V → Hp → VK → Prop := fun xs H Q => ∃ i j, xs = [.int i, .int j] ∧ Q (.int (if j < i then j else i)) H
def rMax2 : List V → Hp → VK → Prop := fun xs H Q => ∃ i j, xs = [.int i, .int j] ∧ Q (.int (if j > i then j else i)) H
def rListOf (K : PySem.W.Frag) : List V → Hp → VK → Prop := fun xs H Q => ∃ p ys, xs = [.ref p] ∧ (SqL K H p ys ∨ SqT K H p ys) ∧ ∀ l, H l = none → Q (.ref l) (upd H l (.lst ys))
def rDictD : List V → Hp → VK → Prop := fun xs H Q => ∃ (a : Addr) (kvs : List (Key × V)), xs = [.ref a] ∧ Rd H a (.dK kvs) ∧ ∀ p, H p = none → Q (.ref p) (upd H p (.dK kvs))
def rSortD : List V → Hp → VK → Prop := fun xs H Q => ∃ (a : Addr) (kvs : List (Key × V)) (ks : List Str), xs = [.ref a] ∧ Rd H a (.dK kvs) ∧ kvs.map (·.1) = ks.map Sum.inr ∧ ks.length < 64 ∧ ∀ ys p, ys.Perm ks → PyProof.Rows.sortedS ys = true → H p = none → Q (.ref p) (upd H p (.lst (ys.map V.str)))
def tTr (K : PySem.W.Frag) (ta : TE) : TT := fun σ H Q => ta σ H fun x H' => ∃ k, TruV K x H' k ∧ Q k H'
section
variable {σ : St} {H : Hp} {Q : VK} {ta tb tc te : TE} {r r' : R2} {v x y : V} {nx bk ct : St → Hp → Prop} {rt : VK} {K : PySem.W.Frag} {tr : TA} {tt tu : TT} {t u : TS} {QT : Bool → Hp → Prop} {QL : List V → Hp → Prop}
theorem x_var {i : Nat} (h : ∃ v, σ[i]? = some (some v) ∧ Q v H) : tVar i σ H Q := h
theorem x_c (q : Q v H) : tC v σ H Q := q
theorem x_op (h : ta σ H fun x H1 => tb σ H1 fun y H2 => r x y H2 Q) : tOp r ta tb σ H Q := h
theorem x_un {r : V → Hp → VK → Prop} (h : ta σ H fun x H1 => r x H1 Q) : tUn r ta σ H Q := h
theorem x_I0 {g : Int → Int → V} {i j : Int} (q : Q (g i j) H) : rI0 g (.int i) (.int j) H Q := ⟨i, j, rfl, rfl, q⟩
theorem x_I {C : Int → Int → Prop} {g : Int → Int → V} {i j : Int} (c : C i j) (q : Q (g i j) H) : rI C g (.int i) (.int j) H Q := ⟨i, j, rfl, rfl, c, q⟩
theorem x_U {g : Int → V} {i : Int} (q : Q (g i) H) : rU g (.int i) H Q := ⟨i, rfl, q⟩
theorem x_test (h : te σ H fun x H1 => ∃ k, x = .bl k ∧ QT k H1) : tTest te σ H QT := h
theorem x_B (h : te σ H fun x H1 => ∃ k, x = .bl k ∧ QT k H1) : tB te σ H QT := h
theorem x_tr (h : te σ H fun x H1 => ∃ k, TruV K x H1 k ∧ QT k H1) : tTr K te σ H QT := h
theorem x_bl {k : Bool} {P : Bool → Prop} (q : P k) : ∃ k', V.bl k = .bl k' ∧ P k' := ⟨k, rfl, q⟩
theorem x_nil (q : QL [] H) : tNil σ H QL := q
theorem x_cons (h : ta σ H fun x H1 => tr σ H1 fun xs H2 => QL (x :: xs) H2) : tCons ta tr σ H QL := h
theorem x_lst (h : tr σ H fun xs H1 => xs.length ≤ sizeLine ∧ ∀ p, H1 p = none → Q (.ref p) (upd H1 p (.lst xs))) : tLst tr σ H Q := h
theorem x_tup (h : tr σ H fun xs H1 => xs.length ≤ sizeLine ∧ ∀ p, H1 p = none → Q (.ref p) (upd H1 p (.tup xs))) : tTup tr σ H Q := h
theorem x_cb {r : List V → Hp → VK → Prop} (h : tr σ H fun vs H1 => r vs H1 Q) : tCB r tr σ H Q := h
theorem x_sl {r : V → Option Int → Option Int → Hp → VK → Prop} {tl th : TO} (h : te σ H fun x H1 => tl σ H1 fun l H2 => th σ H2 fun u H3 => r x l u H3 Q) : tSl r te tl th σ H Q := h
theorem x_nopart {QO : Option Int → Hp → Prop} (q : QO none H) : tNoPart σ H QO := q
theorem x_part {QO : Option Int → Hp → Prop} (h : te σ H fun x H1 => ∃ i, x = .int i ∧ QO (some i) H1) : tPart te σ H QO := h
theorem x_int {i : Int} {P : Int → Prop} (q : P i) : ∃ j, V.int i = .int j ∧ P j := ⟨i, rfl, q⟩
theorem x_ev (v : V) (h : ∀ Q : VK, Q v H → te σ H Q) (q : Q v H) : te σ H Q := h Q q
theorem x_tev (b : Bool) (h : ∀ Q : Bool → Hp → Prop, Q b H → tt σ H Q) (q : QT b H) : tt σ H QT := h QT q
theorem x_if (h : tt σ H fun c H1 => if c = true then ta σ H1 Q else tb σ H1 Q) : tIf tt ta tb σ H Q := h
theorem x_andV (h : ta σ H fun x H1 => ∃ c, x = .bl c ∧ if c = true then tb σ H1 Q else Q (.bl false) H1) : tAndV ta tb σ H Q := h
theorem x_orV (h : ta σ H fun x H1 => ∃ c, x = .bl c ∧ if c = true then Q (.bl true) H1 else tb σ H1 Q) : tOrV ta tb σ H Q := h
theorem x_notV (h : ta σ H fun x H1 => ∃ c, x = .bl c ∧ Q (.bl (!c)) H1) : tNotV ta σ H Q := h
theorem x_and (h : tt σ H fun c H1 => if c = true then tu σ H1 QT else QT false H1) : tAnd tt tu σ H QT := h
theorem x_or (h : tt σ H fun c H1 => if c = true then QT true H1 else tu σ H1 QT) : tOr tt tu σ H QT := h
theorem x_not (h : tt σ H fun c H1 => QT (!c) H1) : tNot tt σ H QT := h
theorem x_yes (q : QT true H) : tYes σ H QT := q
theorem x_ixL {p : Addr} {i : Int} (h : ∃ xs, SqL K H p xs ∧ ∃ v, atI xs i = some v ∧ Q v H) : rIxL K (.ref p) (.int i) H Q := by
  obtain ⟨xs, h, v, a, q⟩ := h
  exact ⟨p, xs, i, v, rfl, rfl, h, a, q⟩
theorem x_ixT {p : Addr} {i : Int} (h : ∃ xs, SqT K H p xs ∧ ∃ v, atI xs i = some v ∧ Q v H) : rIxT K (.ref p) (.int i) H Q := by
  obtain ⟨xs, h, v, a, q⟩ := h
  exact ⟨p, xs, i, v, rfl, rfl, h, a, q⟩
theorem x_fld {f : Str} (h : te σ H fun x H1 => ∃ a C dx fs v, x = .ref a ∧ H1 a = some (.ins C dx fs) ∧ Cls K C ∧ NoAttr K C f ∧ fs.lookup f = some v ∧ Q v H1) : tFld K te f σ H Q := h
theorem x_tyL {p : Addr} {A : Prop} (h : ∃ xs, SqL K H p xs ∧ A) : tyV K "list" (.ref p) H ∧ A := by
  obtain ⟨xs, h, q⟩ := h
  exact ⟨.inl ⟨rfl, xs, h⟩, q⟩
theorem x_eq (s : scal x y = true) (q : Q (.bl (decide (x = y))) H) : rEq x y H Q := ⟨s, q⟩
theorem x_ne (s : scal x y = true) (q : Q (.bl (!decide (x = y))) H) : rNe x y H Q := ⟨s, q⟩
theorem x_isN (q : Q (.bl (decide (x = .non))) H) : rIsNn x .non H Q := ⟨rfl, q⟩
theorem x_notN (q : Q (.bl (!decide (x = .non))) H) : rNotNn x .non H Q := ⟨rfl, q⟩
theorem x_lenL {p : Addr} (h : ∃ xs, SqL K H p xs ∧ Q (.int xs.length) H) : rLenSq K [.ref p] H Q := by
  obtain ⟨xs, h, q⟩ := h
  exact ⟨p, xs, rfl, .inl h, q⟩
theorem x_int1 {i : Int} (q : Q (.int i) H) : rInt1 [.int i] H Q := .inl ⟨i, rfl, q⟩
theorem x_intB {k : Bool} (q : Q (.int (if k then 1 else 0)) H) : rInt1 [.bl k] H Q := .inr ⟨k, rfl, q⟩
theorem x_abs {i : Int} (q : Q (.int (if i < 0 then -i else i)) H) : rAbs [.int i] H Q := ⟨i, rfl, q⟩
theorem x_min2 {i j : Int} (q : Q (.int (if j < i then j else i)) H) : rMin2 [.int i, .int j] H Q := ⟨i, j, rfl, q⟩
theorem x_max2 {i j : Int} (q : Q (.int (if j > i then j else i)) H) : rMax2 [.int i, .int j] H Q := ⟨i, j, rfl, q⟩
theorem x_listL {p : Addr} (h : ∃ xs, SqL K H p xs ∧ ∀ l, H l = none → Q (.ref l) (upd H l (.lst xs))) : rListOf K [.ref p] H Q := by
  obtain ⟨xs, h, q⟩ := h
  exact ⟨p, xs, rfl, .inl h, q⟩
theorem x_cat {a b : Addr} (h : ∃ xs, H a = some (.lst xs) ∧ ∃ ys, H b = some (.lst ys) ∧ xs.length + ys.length ≤ sizeLine ∧ ∀ p, H p = none → Q (.ref p) (upd H p (.lst (xs ++ ys)))) : rCat (.ref a) (.ref b) H Q := by
  obtain ⟨xs, h1, ys, h2, l, q⟩ := h
  exact ⟨a, b, xs, ys, rfl, rfl, h1, h2, l, q⟩
theorem x_slL {a : Addr} {lo hi : Option Int} (h : ∃ xs, SqL K H a xs ∧ ∀ p, H p = none → Q (.ref p) (upd H p (.lst (cutV xs lo hi)))) : rSlL K (.ref a) lo hi H Q := by
  obtain ⟨xs, h, q⟩ := h
  exact ⟨a, xs, rfl, h, q⟩
theorem x_bm {T : String} {r : V → List V → Hp → VK → Prop} (h : te σ H fun x H1 => tyV K T x H1 ∧ tr σ H1 fun xs H2 => r x xs H2 Q) : tBM K T r te tr σ H Q := h
theorem x_app {l : Addr} (h : ∃ xs, H l = some (.lst xs) ∧ xs.length < sizeLine ∧ Q .non (upd H l (.lst (xs ++ [y])))) : rAppend (.ref l) [y] H Q := by
  obtain ⟨xs, h, z, q⟩ := h
  exact ⟨l, xs, y, rfl, rfl, h, z, q⟩
theorem x_seq (h : t ⟨u ⟨nx, rt, bk, ct⟩, rt, bk, ct⟩ σ H) : tSeq t u ⟨nx, rt, bk, ct⟩ σ H := h
theorem x_cut (Mid : L2.St → Hp → Prop) (h : t ⟨Mid, rt, bk, ct⟩ σ H) (k : ∀ σ' H', Mid σ' H' → u ⟨nx, rt, bk, ct⟩ σ' H') : C8.tCut t u ⟨nx, rt, bk, ct⟩ σ H := ⟨Mid, h, k⟩
theorem x_nc (h : t ⟨u ⟨nx, rt, bk, ct⟩, rt, bk, ct⟩ σ H) : C8.tCut t u ⟨nx, rt, bk, ct⟩ σ H := ⟨_, h, fun _ _ q => q⟩
theorem x_asg {i : Nat} (h : te σ H fun x H1 => nx (σ.set i (some x)) H1) : tAsg te (gName i) ⟨nx, rt, bk, ct⟩ σ H := h
theorem x_drop (h : te σ H fun _ H1 => nx σ H1) : tDrop te ⟨nx, rt, bk, ct⟩ σ H := h
theorem x_ret (h : te σ H rt) : tRet te ⟨nx, rt, bk, ct⟩ σ H := h
theorem x_retN (h : rt .non H) : tRetN ⟨nx, rt, bk, ct⟩ σ H := h
theorem x_ifS (h : tt σ H fun b H1 => if b = true then t ⟨nx, rt, bk, ct⟩ σ H1 else u ⟨nx, rt, bk, ct⟩ σ H1) : tIfS tt t u ⟨nx, rt, bk, ct⟩ σ H := h
theorem x_next (h : nx σ H) : tNext ⟨nx, rt, bk, ct⟩ σ H := h
theorem x_brk (h : bk σ H) : tBreak ⟨nx, rt, bk, ct⟩ σ H := h
theorem x_cont (h : ct σ H) : tCont ⟨nx, rt, bk, ct⟩ σ H := h
theorem x_call {sp : Sp} {dvs : List V} {E : XK} (h : tr σ H fun vs H1 => sp (vs ++ dvs) H1 Q E) : tCall sp dvs E tr σ H Q := h
theorem ifT {b : Bool} {A B : Prop} (e : b = true) (h : A) : if b = true then A else B := by
  rw [if_pos e]; exact h
theorem ifF {b : Bool} {A B : Prop} (e : b = false) (h : B) : if b = true then A else B := by
  subst e; exact iteF h
theorem ifd {c : Prop} [Decidable c] {A B : Prop} (h1 : c → A) (h2 : ¬ c → B) : if decide c = true then A else B := by
  by_cases h : c
  · rw [decide_eq_true h]; exact iteT (h1 h)
  · rw [decide_eq_false h]; exact iteF (h2 h)
theorem ifn {c : Prop} [Decidable c] {A B : Prop} (h1 : ¬ c → A) (h2 : c → B) : if (!decide c) = true then A else B := by
  by_cases h : c
  · rw [decide_eq_true h]; exact iteF (h2 h)
  · rw [decide_eq_false h]; exact iteT (h1 h)
end
/-! ### loops, targets -/
def tForJ (J : It) (g : TG) (tb : TS) : TS := fun D σ H => ∃ W : Nat → Nat → L2.St → Hp → Prop, (∃ m, W 0 m σ H) ∧ ∀ i m σ H, W i m σ H →
  (J.stop i H ∧ D.nx σ H) ∨ (J.go i H ∧ ∃ N : L2.St → Hp → Prop, (∀ σ' H', N σ' H' → ∃ m', m' < m ∧ W (i + 1) m' σ' H') ∧ ∀ x H', J.yld i H x H' → g x σ H' fun σ2 H2 => tb { D with nx := N, ct := N, bk := D.nx } σ2 H2)
section
variable {σ : L2.St} {H : Hp} {g : TG} {tb : TS} {ta : TA} {te : TE} {K : PySem.W.Frag} {nx bk ct : L2.St → Hp → Prop} {rt : VK} {QG : L2.St → Hp → Prop}
theorem x_forR1 (h : ta σ H fun vs H1 => ∃ j : Int, vs = [.int j] ∧ -(2 ^ 62) ≤ j ∧ j < 2 ^ 62 ∧ tForJ (Itr 0 j.toNat) g tb ⟨nx, rt, bk, ct⟩ σ H1) : tFor (iRng1 ta) g tb ⟨nx, rt, bk, ct⟩ σ H := h
theorem x_forR2 (h : ta σ H fun vs H1 => ∃ i j : Int, vs = [.int i, .int j] ∧ (-(2 ^ 62) ≤ i ∧ i < 2 ^ 62 ∧ -(2 ^ 62) ≤ j ∧ j < 2 ^ 62) ∧ tForJ (Itr i (j - i).toNat) g tb ⟨nx, rt, bk, ct⟩ σ H1) : tFor (iRng2 ta) g tb ⟨nx, rt, bk, ct⟩ σ H := h
theorem x_forL (h : te σ H fun x H1 => ∃ a, x = .ref a ∧ (∃ xs, SqL K H1 a xs) ∧ tForJ (Itl K a) g tb ⟨nx, rt, bk, ct⟩ σ H1) : tFor (iList K te) g tb ⟨nx, rt, bk, ct⟩ σ H := h
theorem x_forT (h : te σ H fun x H1 => ∃ a, x = .ref a ∧ (∃ xs, SqT K H1 a xs) ∧ tForJ (Itt K a) g tb ⟨nx, rt, bk, ct⟩ σ H1) : tFor (iTup K te) g tb ⟨nx, rt, bk, ct⟩ σ H := h
theorem w_rng {lo : Int} {n : Nat} (Pv : Nat → L2.St → Hp → Prop) (h0 : Pv 0 σ H)
    (hs : ∀ i σ H, i < n → Pv i σ H → g (.int (lo + i)) σ H fun σ2 H2 => tb ⟨Pv (i + 1), rt, nx, Pv (i + 1)⟩ σ2 H2) (hd : ∀ σ H, Pv n σ H → nx σ H) : tForJ (Itr lo n) g tb ⟨nx, rt, bk, ct⟩ σ H := for_range (D := ⟨nx, rt, bk, ct⟩) Pv h0 hs hd
theorem w_lst {a : Addr} {xs : List V} (Pv : Nat → L2.St → Hp → Prop) (h0 : Pv 0 σ H) (hl : ∀ i σ H, i ≤ xs.length → Pv i σ H → SqL K H a xs)
    (hs : ∀ i x σ H, xs[i]? = some x → Pv i σ H → g x σ H fun σ2 H2 => tb ⟨Pv (i + 1), rt, nx, Pv (i + 1)⟩ σ2 H2) (hd : ∀ σ H, Pv xs.length σ H → nx σ H) : tForJ (Itl K a) g tb ⟨nx, rt, bk, ct⟩ σ H := for_list (D := ⟨nx, rt, bk, ct⟩) Pv h0 hl hs hd
theorem w_tup {a : Addr} {xs : List V} (Pv : Nat → L2.St → Hp → Prop) (h0 : Pv 0 σ H) (hl : ∀ i σ H, i ≤ xs.length → Pv i σ H → SqT K H a xs)
    (hs : ∀ i x σ H, xs[i]? = some x → Pv i σ H → g x σ H fun σ2 H2 => tb ⟨Pv (i + 1), rt, nx, Pv (i + 1)⟩ σ2 H2) (hd : ∀ σ H, Pv xs.length σ H → nx σ H) : tForJ (Itt K a) g tb ⟨nx, rt, bk, ct⟩ σ H := for_tup (D := ⟨nx, rt, bk, ct⟩) Pv h0 hl hs hd
theorem w_while {c : TT} (m : Nat) (Pv : Nat → L2.St → Hp → Prop) (h0 : Pv m σ H)
    (hs : ∀ m σ H, Pv m σ H → c σ H fun b H1 => if b = true then ∃ N : L2.St → Hp → Prop, (∀ σ' H', N σ' H' → ∃ m', m' < m ∧ Pv m' σ' H') ∧ tb ⟨N, rt, nx, N⟩ σ H1 else nx σ H1) : tWhile c tb ⟨nx, rt, bk, ct⟩ σ H := ⟨Pv, ⟨m, h0⟩, hs⟩
theorem x_gn {i : Nat} {v : V} (h : QG (σ.set i (some v)) H) : gName i v σ H QG := h
theorem x_gnil (h : QG σ H) : gNil [] σ H QG := ⟨rfl, h⟩
theorem x_gtup {n : Nat} {t : TGs} {a : Addr} (h : ∃ xs, SqT K H a xs ∧ xs.length = n ∧ t xs σ H QG) : gTup K n t (.ref a) σ H QG := by
  obtain ⟨xs, h, l, q⟩ := h
  exact ⟨a, xs, rfl, h, l, q⟩
theorem x_gcons {t : TG} {u : TGs} {v : V} {r : List V} (h : t v σ H fun σ' H' => u r σ' H' QG) : gCons t u (v :: r) σ H QG := ⟨v, r, rfl, h⟩
end
/-! ### the heap -/
def Ex (H H' : Hp) : Prop := ∀ a o, H a = some o → H' a = some o
theorem Ex.refl (H : Hp) : Ex H H := fun _ _ h => h
theorem Ex.trans {H H1 H2 : Hp} (a : Ex H H1) (b : Ex H1 H2) : Ex H H2 := fun x o h => b x o (a x o h)
theorem Ex.at {H H' : Hp} {a : Addr} {o : HO} (e : Ex H H') (h : H a = some o) : H' a = some o := e a o h
theorem Ex.new {H : Hp} {p : Addr} {o : HO} (h : H p = none) : Ex H (upd H p o) := fun a u e => by
  rw [upd_ne (ne_of_none e h)]
  exact e
theorem Ex.mut {H H' : Hp} {p : Addr} {o : HO} (e : Ex H H') (h : H p = none) : Ex H (upd H' p o) := fun a u ha => by
  rw [upd_ne (ne_of_none ha h)]
  exact e a u ha
theorem Ex.none {H H' : Hp} {p : Addr} (e : Ex H H') (h : H' p = none) : H p = none := by
  cases h1 : H p with
  | none => rfl
  | some o =>
    rw [e p o h1] at h
    cases h
theorem Ex.rd {H H' : Hp} {a : Addr} {u : HO} (e : Ex H H') (h : Rd H a u) : Rd H' a u := by
  rcases h with h | ⟨o, h⟩
  · exact Or.inl (e a _ h)
  · exact Or.inr ⟨o, e a _ h⟩
theorem Ex.l {K : PySem.W.Frag} {H H' : Hp} {a : Addr} {xs : List V} (e : Ex H H') (h : SqL K H a xs) : SqL K H' a xs := by
  rcases h with h | h
  · exact Or.inl (e.rd h)
  · exact Or.inr h
theorem Ex.t {K : PySem.W.Frag} {H H' : Hp} {a : Addr} {xs : List V} (e : Ex H H') (h : SqT K H a xs) : SqT K H' a xs := by
  rcases h with h | h
  · exact Or.inl (e.rd h)
  · exact Or.inr h
theorem lq {K : PySem.W.Frag} {H : Hp} {a : Addr} {xs : List V} (h : H a = some (.lst xs)) : SqL K H a xs := .inl (.inl h)
theorem tq {K : PySem.W.Frag} {H : Hp} {a : Addr} {xs : List V} (h : H a = some (.tup xs)) : SqT K H a xs := .inl (.inl h)
theorem sz_of {n : Nat} (h : n ≤ 1000000) : n ≤ sizeLine := Nat.le_trans h (by decide)
theorem sz_lt {n : Nat} (h : n < 1000000) : n < sizeLine := Nat.lt_of_lt_of_le h (by decide)
theorem upd_eq_none {H : Hp} {a b : Addr} {o : HO} : upd H a o b = none ↔ b ≠ a ∧ H b = none := by
  unfold upd
  by_cases h : b = a
  · simp [h]
  · simp [h]
theorem hp_ne {H : Hp} {a b : Addr} {o u : HO} (h : H b = some o) (n : b ≠ a) : upd H a u b = some o := (upd_ne n).trans h
theorem hp_new {H : Hp} {a b : Addr} {o u : HO} (n : H a = none) (h : H b = some o) : upd H a u b = some o := Ex.new n b o h
theorem sq_new {K : PySem.W.Frag} {H : Hp} {a b : Addr} {xs : List V} {u : HO} (n : H a = none) (h : SqL K H b xs) : SqL K (upd H a u) b xs := Ex.l (Ex.new n) h
theorem st_new {K : PySem.W.Frag} {H : Hp} {a b : Addr} {xs : List V} {u : HO} (n : H a = none) (h : SqT K H b xs) : SqT K (upd H a u) b xs := Ex.t (Ex.new n) h
local macro_rules | `(tactic| walk_at "ne") => `(tactic| first | assumption | (apply Ne.symm; assumption) | grind [upd])
local macro_rules | `(tactic| walk_at "hp") => `(tactic| first | assumption | exact upd_same | (apply hp_new; assumption; walk_at "hp") | (apply hp_ne; (walk_at "hp"); (walk_at "ne")) | (apply Ex.at; assumption; walk_at "hp"))
local macro_rules | `(tactic| walk_at "sq") => `(tactic| first | assumption | (apply lq; walk_at "hp") | (apply sq_new; assumption; walk_at "sq") | (apply Ex.l; assumption; walk_at "sq"))
local macro_rules | `(tactic| walk_at "st") => `(tactic| first | assumption | (apply tq; walk_at "hp") | (apply st_new; assumption; walk_at "st") | (apply Ex.t; assumption; walk_at "st"))
/-! ### objects -/
def GetF (K : PySem.W.Frag) (f : Str) (x : V) (H : Hp) (Q : VK) : Prop := ∃ a C dx fs v, x = .ref a ∧ H a = some (.ins C dx fs) ∧ Cls K C ∧ NoAttr K C f ∧ fs.lookup f = some v ∧ Q v H
def PutF (K : PySem.W.Frag) (f : Str) (x y : V) (H : Hp) (Q : Hp → Prop) : Prop := ∃ a C dx fs, x = .ref a ∧ H a = some (.ins C dx fs) ∧ Cls K C ∧ NoAttr K C f ∧ fs.length < 1000 ∧ Q (upd H a (.ins C dx (putF f y fs)))
def AugF (K : PySem.W.Frag) (f : Str) (x : V) (H : Hp) (tv : (V → Hp → Prop) → Hp → Prop) (rd : V → V → Hp → VK → Prop) (Q : Hp → Prop) : Prop := ∃ a C dx fs v, x = .ref a ∧ H a = some (.ins C dx fs) ∧ Cls K C ∧ NoAttr K C f ∧ fs.lookup f = some v ∧
  tv (fun y H2 => rd v y H2 fun z H3 => ∃ dx' fs', H3 a = some (.ins C dx' fs') ∧ fs'.length < 1000 ∧ Q (upd H3 a (.ins C dx' (putF f z fs')))) H
def MethP (C : Addr) (m : Str) (x : V) (H : Hp) (A : Hp → Prop) : Prop := ∃ (a dx : Addr) (fs : List (Str × V)), x = .ref a ∧ H a = some (.ins C dx fs) ∧ fs.lookup m = none ∧ A H
section
variable {σ : L2.St} {H : Hp} {Q : VK} {te tv ta : TE} {K : PySem.W.Frag} {f : Str} {nx bk ct : L2.St → Hp → Prop} {rt : VK} {y : V} {C p : Addr} {t : TA}
theorem x_getf (h : te σ H fun x H1 => GetF K f x H1 Q) : tFld K te f σ H Q := h
theorem x_get (c : Cls K C) (n : NoAttr K C f) (h : ∃ dx fs, H p = some (.ins C dx fs) ∧ ∃ v, fs.lookup f = some v ∧ Q v H) : GetF K f (.ref p) H Q := by
  obtain ⟨dx, fs, h, v, l, q⟩ := h
  exact ⟨p, C, dx, fs, v, rfl, h, c, n, l, q⟩
theorem x_putf (h : tv σ H fun y H1 => ta σ H1 fun x H2 => PutF K f x y H2 (nx σ)) : sFld K ta tv f ⟨nx, rt, bk, ct⟩ σ H := h
theorem x_put {QH : Hp → Prop} (c : Cls K C) (n : NoAttr K C f) (h : ∃ dx fs, H p = some (.ins C dx fs) ∧ fs.length < 1000 ∧ ∃ fs', putF f y fs = fs' ∧ QH (upd H p (.ins C dx fs'))) : PutF K f (.ref p) y H QH := by
  obtain ⟨dx, fs, h, z, _, rfl, q⟩ := h
  exact ⟨p, C, dx, fs, rfl, h, c, n, z, q⟩
theorem x_meth {m : Str} {sp : Sp} {dvs : List V} {E : XK} (h : ta σ H fun x H1 => MethP C m x H1 fun H1 => t σ H1 fun vs H2 => sp (x :: (vs ++ dvs)) H2 Q E) : tMeth C m sp dvs E ta t σ H Q := h
theorem x_methp {m : Str} {A : Hp → Prop} (h : ∃ dx fs, H p = some (.ins C dx fs) ∧ fs.lookup m = none ∧ A H) : MethP C m (.ref p) H A := by
  obtain ⟨dx, fs, h, l, q⟩ := h
  exact ⟨p, dx, fs, rfl, h, l, q⟩
theorem x_make {sp : Sp} {dvs : List V} {E : XK} (h : t σ H fun vs H1 => ∀ x dx, H1 x = none → H1 dx = none → dx ≠ x → sp (.ref x :: (vs ++ dvs)) (upd (upd H1 dx (.own x)) x (.ins C dx [])) (fun v H2 => v = .non ∧ Q (.ref x) H2) E) : tMake C sp dvs E t σ H Q := h
/-! ### dicts -/
def GetD (x y : V) (H : Hp) (Q : VK) : Prop := ∃ a v, x = .ref a ∧ DGet H a y (some v) ∧ Q v H
def InD (x y : V) (H : Hp) (Q : VK) : Prop := ∃ a o, x = .ref a ∧ DGet H a y o ∧ Q (.bl o.isSome) H
def NInD (x y : V) (H : Hp) (Q : VK) : Prop := ∃ a o, x = .ref a ∧ DGet H a y o ∧ Q (.bl (!o.isSome)) H
def PutD (x y v : V) (H : Hp) (Q : Hp → Prop) : Prop := ∃ a H4, x = .ref a ∧ DPut H a y v H4 ∧ Q H4
def DelD (x y : V) (H : Hp) (Q : Hp → Prop) : Prop := ∃ a kvs k, x = .ref a ∧ H a = some (.dK kvs) ∧ y = kV k ∧ (valV kvs k).isSome = true ∧ Q (upd H a (.dK (dropK kvs k)))
def IsDP (x : V) (H : Hp) (A : Addr → Prop) : Prop := ∃ a, x = .ref a ∧ IsD H a ∧ A a
def GetDx (a : Addr) (y z : V) (H : Hp) (Q : VK) : Prop := ∃ o, DGet H a y o ∧ Q (o.getD z) H
def PopD (a : Addr) (y : V) (H : Hp) (Q : VK) : Prop := ∃ kvs k v, H a = some (.dK kvs) ∧ y = kV k ∧ valV kvs k = some v ∧ Q v (upd H a (.dK (dropK kvs k)))
theorem x_dget {td ty : TE} (h : td σ H fun x H1 => ty σ H1 fun y H2 => GetD x y H2 Q) : tDGet td ty σ H Q := h
theorem x_din {td ty : TE} (h : ty σ H fun y H1 => td σ H1 fun x H2 => InD x y H2 Q) : tDIn ty td σ H Q := h
theorem x_dnin {td ty : TE} (h : ty σ H fun y H1 => td σ H1 fun x H2 => NInD x y H2 Q) : tDNotIn ty td σ H Q := h
theorem x_dput {td ty : TE} (h : tv σ H fun v H1 => td σ H1 fun x H2 => ty σ H2 fun y H3 => PutD x y v H3 (nx σ)) : sDPut td ty tv ⟨nx, rt, bk, ct⟩ σ H := h
theorem x_ddel {td ty : TE} (h : td σ H fun x H1 => ty σ H1 fun y H2 => DelD x y H2 (nx σ)) : sDDel td ty ⟨nx, rt, bk, ct⟩ σ H := h
theorem x_dget2 {td ty tx : TE} (h : td σ H fun x H1 => IsDP x H1 fun a => ty σ H1 fun y H2 => tx σ H2 fun z H3 => GetDx a y z H3 Q) : tDGet2 td ty tx σ H Q := h
theorem x_dpop {td ty : TE} (h : td σ H fun x H1 => IsDP x H1 fun a => ty σ H1 fun y H2 => PopD a y H2 Q) : tDPop1 td ty σ H Q := h
theorem x_dnew (h : ∀ p, H p = none → Q (.ref p) (upd H p (.dK []))) : tDNewK σ H Q := h
theorem x_isd {A : Addr → Prop} (h : ∃ kvs, H p = some (.dK kvs) ∧ A p) : IsDP (.ref p) H A := by
  obtain ⟨kvs, h, q⟩ := h
  exact ⟨p, rfl, .inl ⟨kvs, .inl h⟩, q⟩
theorem x_getS {s : Str} (h : ∃ kvs, H p = some (.dK kvs) ∧ ∃ v, valV kvs (Sum.inr s : Key) = some v ∧ Q v H) : GetD (.ref p) (.str s) H Q := by
  obtain ⟨kvs, h, v, e, q⟩ := h
  exact ⟨p, v, rfl, e ▸ DGet.k (k := Sum.inr s) h, q⟩
theorem x_inS {s : Str} (h : ∃ kvs, H p = some (.dK kvs) ∧ Q (.bl (valV kvs (Sum.inr s : Key)).isSome) H) : InD (.ref p) (.str s) H Q := by
  obtain ⟨kvs, h, q⟩ := h
  exact ⟨p, _, rfl, DGet.k (k := Sum.inr s) h, q⟩
theorem x_ninS {s : Str} (h : ∃ kvs, H p = some (.dK kvs) ∧ Q (.bl (!(valV kvs (Sum.inr s : Key)).isSome)) H) : NInD (.ref p) (.str s) H Q := by
  obtain ⟨kvs, h, q⟩ := h
  exact ⟨p, _, rfl, DGet.k (k := Sum.inr s) h, q⟩
theorem x_putS {s : Str} {v : V} {QH : Hp → Prop} (h : ∃ kvs, H p = some (.dK kvs) ∧ kvs.length < sizeLine ∧ QH (upd H p (.dK (putK kvs (Sum.inr s : Key) v)))) : PutD (.ref p) (.str s) v H QH := by
  obtain ⟨kvs, h, z, q⟩ := h
  exact ⟨p, _, rfl, DPut.k (k := Sum.inr s) h z, q⟩
theorem x_delS {s : Str} {QH : Hp → Prop} (h : ∃ kvs, H p = some (.dK kvs) ∧ (valV kvs (Sum.inr s : Key)).isSome = true ∧ QH (upd H p (.dK (dropK kvs (Sum.inr s : Key))))) : DelD (.ref p) (.str s) H QH := by
  obtain ⟨kvs, h, z, q⟩ := h
  exact ⟨p, kvs, Sum.inr s, rfl, h, rfl, z, q⟩
theorem x_getdxS {s : Str} {z : V} (h : ∃ kvs, H p = some (.dK kvs) ∧ Q ((valV kvs (Sum.inr s : Key)).getD z) H) : GetDx p (.str s) z H Q := by
  obtain ⟨kvs, h, q⟩ := h
  exact ⟨_, DGet.k (k := Sum.inr s) h, q⟩
theorem x_popS {s : Str} (h : ∃ kvs, H p = some (.dK kvs) ∧ ∃ v, valV kvs (Sum.inr s : Key) = some v ∧ Q v (upd H p (.dK (dropK kvs (Sum.inr s : Key))))) : PopD p (.str s) H Q := by
  obtain ⟨kvs, h, v, e, q⟩ := h
  exact ⟨kvs, Sum.inr s, v, h, rfl, e, q⟩
theorem x_lenD (h : ∃ kvs, H p = some (.dK kvs) ∧ Q (.int kvs.length) H) : rLenDk [.ref p] H Q := by
  obtain ⟨kvs, h, q⟩ := h
  exact ⟨p, kvs, rfl, h, q⟩
theorem x_dictD (h : ∃ kvs, H p = some (.dK kvs) ∧ ∀ l, H l = none → Q (.ref l) (upd H l (.dK kvs))) : rDictD [.ref p] H Q := by
  obtain ⟨kvs, h, q⟩ := h
  exact ⟨p, kvs, rfl, .inl h, q⟩
theorem x_sortD (h : ∃ kvs ks, H p = some (.dK kvs) ∧ kvs.map (·.1) = ks.map Sum.inr ∧ ks.length < 64 ∧ ∀ ys l, ys.Perm ks → PyProof.Rows.sortedS ys = true → H l = none → Q (.ref l) (upd H l (.lst (ys.map V.str)))) : rSortD [.ref p] H Q := by
  obtain ⟨kvs, ks, h, e, z, q⟩ := h
  exact ⟨p, kvs, ks, rfl, .inl h, e, z, q⟩
theorem x_sub {to ti : TE} {v : V} {t : TSet} {QG : L2.St → Hp → Prop} (h : to σ H fun o H1 => ti σ H1 fun i H2 => t o i v H2 (QG σ)) : gSub to ti t v σ H QG := h
theorem x_asgG {g : TG} (h : te σ H fun x H1 => g x σ H1 nx) : tAsg te g ⟨nx, rt, bk, ct⟩ σ H := h
theorem x_setL {a : Addr} {i : Int} {v : V} {QH : Hp → Prop} (h : ∃ xs, H a = some (.lst xs) ∧ ∃ j, ixN xs.length i = some j ∧ QH (upd H a (.lst (xs.set j v)))) : rSetL (.ref a) (.int i) v H QH := by
  obtain ⟨xs, h, j, e, q⟩ := h
  exact ⟨a, xs, i, j, rfl, rfl, h, e, q⟩
end
/-! ### the tactics -/
/-! ### list comprehensions -/
def tLcJ (J : It) (g : TG) (tt : TT) (te : TE) (vs : List Nat) : TE := fun σ H1 Q => ∀ D, H1 D = none → ∃ W : Nat → Nat → Hp → Prop, (∃ m, W 0 m (upd H1 D (.lst []))) ∧ ∀ i m H, W i m H →
  (J.stop i H ∧ Q (.ref D) H) ∨ (J.go i H ∧ ∃ Nx : Hp → Prop, (∀ H', Nx H' → ∃ m', m' < m ∧ W (i + 1) m' H') ∧ ∀ x H', J.yld i H x H' → g x (wipe σ vs) H' fun σ2 H2 => wipe σ2 vs = wipe σ vs ∧ tt σ2 H2 fun b H3 =>
    if b = true then te σ2 H3 fun y H4 => ∃ acc, H4 D = some (.lst acc) ∧ acc.length < sizeLine ∧ Nx (upd H4 D (.lst (acc ++ [y]))) else Nx H3)
section
variable {σ : L2.St} {H : Hp} {g : TG} {tt : TT} {te tl : TE} {ta : TA} {K : PySem.W.Frag} {Q : VK} {vs : List Nat}
theorem x_lcL (h : tl σ H fun x H1 => ∃ a, x = .ref a ∧ (∃ xs, SqL K H1 a xs) ∧ tLcJ (Itl K a) g tt te vs σ H1 Q) : tLc (iList K tl) g tt te vs σ H Q := h
theorem x_lcR1 (h : ta σ H fun vs0 H1 => ∃ j : Int, vs0 = [.int j] ∧ -(2 ^ 62) ≤ j ∧ j < 2 ^ 62 ∧ tLcJ (Itr 0 j.toNat) g tt te vs σ H1 Q) : tLc (iRng1 ta) g tt te vs σ H Q := h
theorem wipe1 (σ : L2.St) (j : Nat) (v : Option V) : wipe ((wipe σ [j]).set j v) [j] = wipe σ [j] := by
  show ((σ.set j none).set j v).set j none = σ.set j none
  rw [List.set_set, List.set_set]
/-- over a list, with no if: D the new list, acc what it holds -/
theorem w_lcL {a : Addr} {xs : List V} {j : Nat} (Pv : Addr → Nat → List V → Hp → Prop) (h0 : ∀ D, H D = none → Pv D 0 [] (upd H D (.lst [])))
    (hl : ∀ D i acc H', H D = none → Pv D i acc H' → SqL K H' a xs)
    (hs : ∀ D i acc x H', H D = none → xs[i]? = some x → Pv D i acc H' → te (σ.set j (some x)) H' fun y H4 => ∃ acc2, H4 D = some (.lst acc2) ∧ acc2.length < sizeLine ∧ ∃ acc3, Pv D (i + 1) acc3 (upd H4 D (.lst (acc2 ++ [y]))))
    (hd : ∀ D acc H', H D = none → Pv D xs.length acc H' → Q (.ref D) H') : tLcJ (Itl K a) (gName j) tYes te [j] σ H Q := fun D hn =>
  lc_list (K := K) (a := a) (xs := xs) (fun i H' => ∃ acc, Pv D i acc H') ⟨[], h0 D hn⟩ (fun i H' _ ⟨acc, p⟩ => hl D i acc H' hn p) (fun i x H' hx ⟨acc, p⟩ => by
    refine ⟨wipe1 σ j (some x), ?_⟩
    have e : (wipe σ [j]).set j (some x) = σ.set j (some x) := List.set_set ..
    rw [e]
    refine x_yes ?_
    exact iteT (hs D i acc x H' hn hx p)) fun H' ⟨acc, p⟩ => hd D acc H' hn p
/-- over range(n), with no if -/
theorem w_lcR {n : Nat} {lo : Int} {j : Nat} (Pv : Addr → Nat → List V → Hp → Prop) (h0 : ∀ D, H D = none → Pv D 0 [] (upd H D (.lst [])))
    (hs : ∀ D i acc H', H D = none → i < n → Pv D i acc H' → te (σ.set j (some (.int (lo + i)))) H' fun y H4 => ∃ acc2, H4 D = some (.lst acc2) ∧ acc2.length < sizeLine ∧ ∃ acc3, Pv D (i + 1) acc3 (upd H4 D (.lst (acc2 ++ [y]))))
    (hd : ∀ D acc H', H D = none → Pv D n acc H' → Q (.ref D) H') : tLcJ (Itr lo n) (gName j) tYes te [j] σ H Q := fun D hn =>
  lc_range (lo := lo) (n := n) (fun i H' => ∃ acc, Pv D i acc H') ⟨[], h0 D hn⟩ (fun i H' hi ⟨acc, p⟩ => by
    refine ⟨wipe1 σ j (some (.int (lo + i))), ?_⟩
    have e : (wipe σ [j]).set j (some (.int (lo + i))) = σ.set j (some (.int (lo + i))) := List.set_set ..
    rw [e]
    refine x_yes ?_
    exact iteT (hs D i acc H' hn hi p)) fun H' ⟨acc, p⟩ => hd D acc H' hn p
end
/-! ### data, compared -/
def dInts (xs : List Int) : PyData := .list (xs.map PyData.int)
def dStrs (xs : List Str) : PyData := .list (xs.map PyData.str)
section
variable {K : PySem.W.Frag} {H : Hp} {Q : VK}
theorem all_ints (xs : List Int) : DpAll K H (xs.map V.int) (xs.map PyData.int) := by
  induction xs with
  | nil => exact .nil
  | cons x r ih => exact .cons (.int x) ih
theorem all_strs (xs : List Str) : DpAll K H (xs.map V.str) (xs.map PyData.str) := by
  induction xs with
  | nil => exact .nil
  | cons x r ih => exact .cons (.str x) ih
theorem dp_ints {a : Addr} {xs : List Int} (h : SqL K H a (xs.map V.int)) : Dp K H (.ref a) (dInts xs) := .lst h (all_ints xs)
theorem dp_strs {a : Addr} {xs : List Str} (h : SqL K H a (xs.map V.str)) : Dp K H (.ref a) (dStrs xs) := .lst h (all_strs xs)
theorem lay_all : ∀ {ds : List PyData}, (∀ d ∈ ds, d.canLay0 = true) → PyData.canLayAll0 ds = true
  | [], _ => rfl
  | d :: r, h => by
    show (d.canLay0 && PyData.canLayAll0 r) = true
    rw [h d (List.mem_cons_self ..), lay_all (fun x hx => h x (List.mem_cons_of_mem _ hx))]
    rfl
theorem depth_all {n : Nat} : ∀ {ds : List PyData}, (∀ d ∈ ds, d.depth ≤ n) → PyData.depthAll ds ≤ n
  | [], _ => Nat.zero_le _
  | d :: r, h => by
    show max d.depth (PyData.depthAll r) ≤ n
    have h1 := h d (List.mem_cons_self ..)
    have h2 := depth_all (fun x hx => h x (List.mem_cons_of_mem _ hx))
    omega
/-- may be compared, n levels deep -/
abbrev okStr (x : Str) : Bool := PyData.canLay0 (.str x)
theorem ok_getD (l : List Str) (h : ∀ x ∈ l, okStr x = true) (i : Nat) : okStr (l.getD i Str.empty) = true := by
  rw [List.getD_eq_getElem?_getD]
  cases e : l[i]? with
  | none => show okStr Str.empty = true; decide +kernel
  | some x => exact h x (List.mem_of_getElem? e)
def Sh (n : Nat) (d : PyData) : Prop := d.canLay0 = true ∧ d.depth ≤ n
theorem Sh.list {n : Nat} {ds : List PyData} (h : ∀ d ∈ ds, Sh n d) : Sh (n + 1) (.list ds) := ⟨lay_all fun d hd => (h d hd).1, Nat.succ_le_succ (depth_all fun d hd => (h d hd).2)⟩
theorem Sh.tuple {n : Nat} {ds : List PyData} (h : ∀ d ∈ ds, Sh n d) : Sh (n + 1) (.tuple ds) := ⟨lay_all fun d hd => (h d hd).1, Nat.succ_le_succ (depth_all fun d hd => (h d hd).2)⟩
theorem Sh.int (i : Int) (n : Nat) : Sh n (.int i) := ⟨rfl, Nat.zero_le _⟩
theorem Sh.bool (i : Bool) (n : Nat) : Sh n (.bool i) := ⟨rfl, Nat.zero_le _⟩
theorem Sh.none (n : Nat) : Sh n .none := ⟨rfl, Nat.zero_le _⟩
theorem Sh.str {x : Str} (h : okStr x = true) (n : Nat) : Sh n (.str x) := ⟨h, Nat.zero_le _⟩
theorem Sh.mono {n m : Nat} {d : PyData} (h : Sh n d) (l : n ≤ m) : Sh m d := ⟨h.1, Nat.le_trans h.2 l⟩
theorem Sh.ok {n : Nat} {d : PyData} (h : Sh n d) (l : n ≤ 64) : SeqAt.shaped d = true := by
  unfold SeqAt.shaped
  rw [h.1, decide_eq_true (Nat.le_trans h.2 l)]
  rfl
theorem Sh.eq {n : Nat} {d : PyData} (h : Sh n d) : PyData.eqv d d = true := SeqAt.eqv_refl d h.1
theorem Sh.ints (xs : List Int) (n : Nat) : Sh (n + 1) (dInts xs) := .list fun d hd => by
  obtain ⟨x, _, rfl⟩ := List.mem_map.mp hd
  exact .int x n
theorem Sh.strs {xs : List Str} (h : ∀ x ∈ xs, okStr x = true) (n : Nat) : Sh (n + 1) (dStrs xs) := .list fun d hd => by
  obtain ⟨x, hx, rfl⟩ := List.mem_map.mp hd
  exact .str (h x hx) n
/-- equal data: == -/
theorem x_eqD {x y : V} {d : PyData} {n : Nat} (h1 : Dp K H x d) (h2 : Dp K H y d) (s : Sh n d) (l : n ≤ 64) (q : Q (.bl true) H) : rEqD K x y H Q := ⟨d, d, h1, h2, s.ok l, s.ok l, by rw [s.eq]; exact q⟩
theorem x_neD {x y : V} {d : PyData} {n : Nat} (h1 : Dp K H x d) (h2 : Dp K H y d) (s : Sh n d) (l : n ≤ 64) (q : Q (.bl false) H) : rNeD K x y H Q := ⟨d, d, h1, h2, s.ok l, s.ok l, by rw [s.eq]; exact q⟩
/-- isinstance(x, T), T a built-in class -/
theorem x_isi {x : V} {t T : String} {b : Bool} (ty : TyX K H x (.type t)) (h : PySem.W.kitOne K (.type t) (.type T) = some b) (q : Q (.bl b) H) : rIsi K [x, .ty T] H Q := ⟨x, .ty T, _, _, b, rfl, .ty T, ty, h, q⟩
end
/-! ### sorted texts -/
theorem rising_pair : ∀ (l : List Str) (p : Str), PyProof.Rows.risingS p l = true → (p :: l).Pairwise (fun a b => a.cps.toList ≤ b.cps.toList)
  | [], p, _ => by simp
  | x :: r, p, h => by
    have h1 : (!Spec.ltCps x.cps.toList p.cps.toList && PyProof.Rows.risingS x r) = true := h
    rw [Bool.and_eq_true, Bool.not_eq_true', PyProof.Rows.ltCps_eq, decide_eq_false_iff_not] at h1
    have h2 := rising_pair r x h1.2
    have h3 : p.cps.toList ≤ x.cps.toList := List.not_lt.mp h1.1
    refine List.pairwise_cons.mpr ⟨fun a ha => ?_, h2⟩
    rcases List.mem_cons.mp ha with rfl | ha
    · exact h3
    · exact List.le_trans h3 ((List.pairwise_cons.mp h2).1 a ha)
theorem sorted_pair {l : List Str} (h : PyProof.Rows.sortedS l = true) : l.Pairwise (fun a b => a.cps.toList ≤ b.cps.toList) := by
  cases l with
  | nil => exact .nil
  | cons p r => exact rising_pair r p h
theorem sortedS_uniq {a b : List Str} (p : a.Perm b) (ha : PyProof.Rows.sortedS a = true) (hb : PyProof.Rows.sortedS b = true) : a = b :=
  List.Perm.eq_of_pairwise (fun x y _ _ h1 h2 => by
    have e := List.le_antisymm h1 h2
    have e2 : x.cps = y.cps := Array.toList_inj.mp e
    cases x; cases y; cases e2; rfl) (sorted_pair ha) (sorted_pair hb) p
theorem atI_map (ns : List Int) {k : Int} (h0 : 0 ≤ k) (h1 : k < ns.length) : atI (ns.map V.int) k = some (.int (ns.getD k.toNat 0)) := by
  obtain ⟨n, rfl⟩ := Int.eq_ofNat_of_zero_le h0
  have hn : n < ns.length := by omega
  refine atI_nat ?_
  simp [List.getElem?_eq_getElem hn]
theorem ixN_nat {n j : Nat} (h : j < n) : ixN n (j : Int) = some j := by
  unfold ixN
  rw [if_pos (by omega), if_pos (by omega)]
  rfl
theorem atI_strs (l : List Str) {k : Int} (h0 : 0 ≤ k) (h1 : k < l.length) : atI (l.map V.str) k = some (.str (l.getD k.toNat Str.empty)) := by
  obtain ⟨n, rfl⟩ := Int.eq_ofNat_of_zero_le h0
  have hn : n < l.length := by omega
  refine atI_nat ?_
  simp [List.getElem?_eq_getElem hn]
local macro_rules | `(tactic| walk_at "ix") => `(tactic| first | assumption | exact atI_last _ _ | (apply atI_nat; assumption) | (refine' atI_map _ ?_ ?_ <;> (first | assumption | omega | (simp only [List.length_map] at *; omega))) | exact atI_strs [_, _, _, _] (by omega) (by show _ < (4 : Int); omega) | exact atI_strs [_, _, _] (by omega) (by show _ < (3 : Int); omega) | exact atI_map [_, _] (by omega) (by show _ < (2 : Int); omega) | exact atI_map [_, _, _] (by omega) (by show _ < (3 : Int); omega))
local macro_rules | `(tactic| walk_at "ixs") => `(tactic| first | assumption | (refine ixN_nat ?_; first | assumption | omega | (simp only [List.length_append, List.length_cons, List.length_nil, List.length_set]; omega)))
/-- a display's length, then the new address -/
local macro_rules | `(tactic| walk_at "al") => `(tactic| refine ⟨by first | (show _ ≤ sizeLine; simp only [List.length_cons, List.length_nil, sizeLine_eq]; omega) | exact Nat.zero_le _, ?_⟩)
local macro_rules | `(tactic| walk_at "ln") => `(tactic| first | assumption | (refine sz_lt ?_; omega) | (refine sz_of ?_; omega) | (refine sz_lt ?_; simp only [List.length_map, List.length_append, List.length_cons, List.length_nil]; omega) | (refine sz_of ?_; simp only [List.length_map, List.length_append, List.length_cons, List.length_nil]; omega))
theorem x_r1 {j : Int} {P : Int → Prop} (b : -(2 ^ 62) ≤ j ∧ j < 2 ^ 62) (q : P j) : ∃ j', [V.int j] = [V.int j'] ∧ -(2 ^ 62) ≤ j' ∧ j' < 2 ^ 62 ∧ P j' := ⟨j, rfl, b.1, b.2, q⟩
theorem x_r2 {i j : Int} {P : Int → Int → Prop} (b : -(2 ^ 62) ≤ i ∧ i < 2 ^ 62 ∧ -(2 ^ 62) ≤ j ∧ j < 2 ^ 62) (q : P i j) : ∃ i' j', [V.int i, V.int j] = [V.int i', V.int j'] ∧ (-(2 ^ 62) ≤ i' ∧ i' < 2 ^ 62 ∧ -(2 ^ 62) ≤ j' ∧ j' < 2 ^ 62) ∧ P i' j' := ⟨i, j, rfl, b, q⟩
theorem x_fl {a : Addr} {K : PySem.W.Frag} {H : Hp} {P : Addr → Prop} (h : ∃ xs, SqL K H a xs) (q : P a) : ∃ a', V.ref a = .ref a' ∧ (∃ xs, SqL K H a' xs) ∧ P a' := ⟨a, rfl, h, q⟩
local macro_rules | `(tactic| walk_at "cc") => `(tactic| first | assumption | (show (0 : Int) < _; omega) | (show (0 : Int) ≤ _; omega) | (unfold CDiv; omega) | (unfold CPow; decide) | (unfold CMul; left; omega) | (unfold CMul; right; omega) | (unfold CPow; omega))
local macro_rules | `(tactic| walk_at "rd1") => `(tactic| first
  | with_reducible refine x_seq ?_ | with_reducible refine x_asg ?_ | with_reducible refine x_asgG ?_ | with_reducible refine x_drop ?_ | with_reducible refine x_ret ?_ | with_reducible refine x_retN ?_ | with_reducible refine x_ifS ?_ | with_reducible refine x_next ?_ | with_reducible refine x_brk ?_ | with_reducible refine x_cont ?_
  | with_reducible refine x_op ?_ | with_reducible refine x_un ?_ | with_reducible refine x_c ?_ | with_reducible refine x_I0 ?_ | with_reducible refine x_test ?_ | with_reducible refine x_B ?_ | with_reducible refine x_tr ?_ | with_reducible refine x_bl ?_
  | with_reducible refine x_nil ?_ | with_reducible refine x_cons ?_ | with_reducible refine x_lst ?_ | with_reducible refine x_tup ?_ | with_reducible refine x_cb ?_ | with_reducible refine x_sl ?_ | with_reducible refine x_nopart ?_ | with_reducible refine x_part ?_ | with_reducible refine x_int ?_
  | with_reducible refine x_notV ?_ | with_reducible refine x_not ?_ | with_reducible refine x_yes ?_
  | with_reducible refine x_getf ?_ | with_reducible refine x_putf ?_ | with_reducible refine x_meth ?_ | with_reducible refine x_make ?_ | with_reducible refine x_dget ?_ | with_reducible refine x_din ?_ | with_reducible refine x_dnin ?_ | with_reducible refine x_dput ?_ | with_reducible refine x_ddel ?_ | with_reducible refine x_dget2 ?_ | with_reducible refine x_dpop ?_ | with_reducible refine x_dnew ?_ | with_reducible refine x_sub ?_ | with_reducible refine x_isN ?_ | with_reducible refine x_notN ?_ | with_reducible refine x_int1 ?_ | with_reducible refine x_intB ?_ | with_reducible refine x_abs ?_ | with_reducible refine x_min2 ?_ | with_reducible refine x_max2 ?_ | with_reducible refine x_bm ?_ | with_reducible refine x_call ?_ | with_reducible refine x_U ?_
  | (with_reducible refine x_var ?_; refine ⟨_, rfl, ?_⟩)
  | ((with_reducible refine x_eq ?h ?q); (case h => exact rfl)) | ((with_reducible refine x_ne ?h ?q); (case h => exact rfl))
  | (with_reducible refine x_lenL ?_; refine' ⟨_, ?sq, ?_⟩; (case sq => walk_at "sq")) | ((with_reducible refine x_ixL ?_); refine' ⟨_, ?sq, _, ?ix, ?_⟩; (case sq => with_reducible walk_at "sq"); (case ix => walk_at "ix"))
  | (with_reducible refine x_tyL ?_; refine' ⟨_, ?sq, ?_⟩; (case sq => walk_at "sq")) | (with_reducible refine x_app ?_; refine' ⟨_, ?sq, ?ln, ?_⟩; (case sq => walk_at "hp"); (case ln => walk_at "ln")) | (with_reducible refine x_listL ?_; refine' ⟨_, ?sq, ?_⟩; (case sq => walk_at "sq"))
  | (with_reducible refine x_slL ?_; refine' ⟨_, ?sq, ?_⟩; (case sq => walk_at "sq")) | (with_reducible refine x_cat ?_; refine' ⟨_, ?sq, _, ?sr, ?ln, ?_⟩; (case sq => walk_at "hp"); (case sr => walk_at "hp"); (case ln => walk_at "ln"))
  | with_reducible refine x_lcL ?_ | with_reducible refine x_lcR1 ?_
  | with_reducible refine x_forR1 ?_ | with_reducible refine x_forR2 ?_ | with_reducible refine x_forL ?_ | with_reducible refine x_forT ?_ | with_reducible refine x_gn ?_ | with_reducible refine x_gnil ?_ | with_reducible refine x_gcons ?_ | ((with_reducible refine x_gtup ?_); refine' ⟨_, ?sq, ?ln, ?_⟩; (case sq => with_reducible walk_at "st"); (case ln => rfl))
  | (with_reducible refine x_I ?c ?_; (case c => walk_at "cc"))
  | ((with_reducible refine x_ixT ?_); refine' ⟨_, ?sq, _, ?ix, ?_⟩; (case sq => with_reducible walk_at "st"); (case ix => first | exact rfl | assumption))
  | ((with_reducible refine x_sortD ?_); refine' ⟨_, _, ?hd, ?kk, ?ln, ?_⟩; (case hd => with_reducible walk_at "hp"); (case kk => assumption); (case ln => omega))
  | (with_reducible refine x_isd ?_; refine' ⟨_, ?hd, ?_⟩; (case hd => walk_at "hp")) | (with_reducible refine x_inS ?_; refine' ⟨_, ?hd, ?_⟩; (case hd => walk_at "hp")) | (with_reducible refine x_ninS ?_; refine' ⟨_, ?hd, ?_⟩; (case hd => walk_at "hp"))
  | (with_reducible refine x_getdxS ?_; refine' ⟨_, ?hd, ?_⟩; (case hd => walk_at "hp")) | (with_reducible refine x_lenD ?_; refine' ⟨_, ?hd, ?_⟩; (case hd => walk_at "hp")) | (with_reducible refine x_dictD ?_; refine' ⟨_, ?hd, ?_⟩; (case hd => walk_at "hp"))
  | (with_reducible refine x_getS ?_; refine' ⟨_, ?hd, _, ?vk, ?_⟩; (case hd => walk_at "hp"); (case vk => assumption)) | (with_reducible refine x_putS ?_; refine' ⟨_, ?hd, ?ln, ?_⟩; (case hd => walk_at "hp"); (case ln => walk_at "ln"))
  | (with_reducible refine x_delS ?_; refine' ⟨_, ?hd, ?vk, ?_⟩; (case hd => walk_at "hp"); (case vk => assumption)) | (with_reducible refine x_popS ?_; refine' ⟨_, ?hd, _, ?vk, ?_⟩; (case hd => walk_at "hp"); (case vk => assumption))
  | (with_reducible refine x_setL ?_; refine' ⟨_, ?hd, _, ?ix, ?_⟩; (case hd => walk_at "hp"); (case ix => walk_at "ixs"))
  | (with_reducible refine' x_get ?c ?n ⟨_, _, ?hd, _, ?lk, ?q⟩; (case hd => walk_at "hp"); (case lk => walk_at "lk"); (case c => assumption); (case n => assumption))
  | (with_reducible refine' x_put ?c ?n ⟨_, _, ?hd, ?lf, _, ?pf, ?q⟩; (case hd => walk_at "hp"); (case lf => walk_at "lf"); (case pf => walk_at "pf"); (case c => assumption); (case n => assumption))
  | (with_reducible refine' x_methp ⟨_, _, ?hd, ?no, ?q⟩; (case hd => walk_at "hp"); (case no => walk_at "no"))
  | with_reducible refine iteT ?_ | with_reducible refine iteF ?_ | ((with_reducible refine ifT ?e ?_); (case e => first | rfl | decide +kernel)) | ((with_reducible refine ifF ?e ?_); (case e => first | rfl | decide +kernel)))
local macro_rules | `(tactic| walk_at "rd") => `(tactic| repeat (walk_at "rd1"))
local macro_rules | `(tactic| walk_at "rdv") => `(tactic| repeat (first | walk_at "rd1" | with_reducible refine x_and ?_ | with_reducible refine x_or ?_ | with_reducible refine x_if ?_ | with_reducible refine x_andV ?_ | with_reducible refine x_orV ?_))
def xmL : List (Str × Str × Bool) := [("OutOfRange", "BellowsError", true), ("OutOfRange", "OutOfRange", true), ("OutOfRange", "Truncated", false), ("OutOfRange", "LooseNumber", false), ("OutOfRange", "WrongFrames", false), ("Truncated", "BellowsError", true), ("Truncated", "OutOfRange", false), ("Truncated", "Truncated", true), ("Truncated", "LooseNumber", false), ("Truncated", "WrongFrames", false), ("LooseNumber", "BellowsError", true), ("LooseNumber", "OutOfRange", false), ("LooseNumber", "Truncated", false), ("LooseNumber", "LooseNumber", true), ("LooseNumber", "WrongFrames", false), ("WrongFrames", "BellowsError", true), ("WrongFrames", "OutOfRange", false), ("WrongFrames", "Truncated", false), ("WrongFrames", "LooseNumber", false), ("WrongFrames", "WrongFrames", true)]
def xmB (K : PySem.W.Frag) : Bool := xmL.all fun p => decide (PySem.W.exmOne K (.ref (He.ga K p.1)) (.ref (He.ga K p.2.1)) = some p.2.2)
theorem xmB_ok {K : PySem.W.Frag} (h : xmB K = true) : ∀ p ∈ xmL, PySem.W.exmOne K (.ref (He.ga K p.1)) (.ref (He.ga K p.2.1)) = some p.2.2 := fun p hp => of_decide_eq_true (List.all_eq_true.mp h p hp)
structure Cxs (K : PySem.W.Frag) : Prop where
  e_BellowsError : ∃ fI, Er K "BellowsError" fI
  e_OutOfRange : ∃ fI, Er K "OutOfRange" fI
  e_Truncated : ∃ fI, Er K "Truncated" fI
  e_LooseNumber : ∃ fI, Er K "LooseNumber" fI
  e_WrongFrames : ∃ fI, Er K "WrongFrames" fI
  x_OutOfRange_BellowsError : PySem.W.exmOne K (.ref (He.ga K "OutOfRange")) (.ref (He.ga K "BellowsError")) = some true
  x_OutOfRange_OutOfRange : PySem.W.exmOne K (.ref (He.ga K "OutOfRange")) (.ref (He.ga K "OutOfRange")) = some true
  x_OutOfRange_Truncated : PySem.W.exmOne K (.ref (He.ga K "OutOfRange")) (.ref (He.ga K "Truncated")) = some false
  x_OutOfRange_LooseNumber : PySem.W.exmOne K (.ref (He.ga K "OutOfRange")) (.ref (He.ga K "LooseNumber")) = some false
  x_OutOfRange_WrongFrames : PySem.W.exmOne K (.ref (He.ga K "OutOfRange")) (.ref (He.ga K "WrongFrames")) = some false
  x_Truncated_BellowsError : PySem.W.exmOne K (.ref (He.ga K "Truncated")) (.ref (He.ga K "BellowsError")) = some true
  x_Truncated_OutOfRange : PySem.W.exmOne K (.ref (He.ga K "Truncated")) (.ref (He.ga K "OutOfRange")) = some false
  x_Truncated_Truncated : PySem.W.exmOne K (.ref (He.ga K "Truncated")) (.ref (He.ga K "Truncated")) = some true
  x_Truncated_LooseNumber : PySem.W.exmOne K (.ref (He.ga K "Truncated")) (.ref (He.ga K "LooseNumber")) = some false
  x_Truncated_WrongFrames : PySem.W.exmOne K (.ref (He.ga K "Truncated")) (.ref (He.ga K "WrongFrames")) = some false
  x_LooseNumber_BellowsError : PySem.W.exmOne K (.ref (He.ga K "LooseNumber")) (.ref (He.ga K "BellowsError")) = some true
  x_LooseNumber_OutOfRange : PySem.W.exmOne K (.ref (He.ga K "LooseNumber")) (.ref (He.ga K "OutOfRange")) = some false
  x_LooseNumber_Truncated : PySem.W.exmOne K (.ref (He.ga K "LooseNumber")) (.ref (He.ga K "Truncated")) = some false
  x_LooseNumber_LooseNumber : PySem.W.exmOne K (.ref (He.ga K "LooseNumber")) (.ref (He.ga K "LooseNumber")) = some true
  x_LooseNumber_WrongFrames : PySem.W.exmOne K (.ref (He.ga K "LooseNumber")) (.ref (He.ga K "WrongFrames")) = some false
  x_WrongFrames_BellowsError : PySem.W.exmOne K (.ref (He.ga K "WrongFrames")) (.ref (He.ga K "BellowsError")) = some true
  x_WrongFrames_OutOfRange : PySem.W.exmOne K (.ref (He.ga K "WrongFrames")) (.ref (He.ga K "OutOfRange")) = some false
  x_WrongFrames_Truncated : PySem.W.exmOne K (.ref (He.ga K "WrongFrames")) (.ref (He.ga K "Truncated")) = some false
  x_WrongFrames_LooseNumber : PySem.W.exmOne K (.ref (He.ga K "WrongFrames")) (.ref (He.ga K "LooseNumber")) = some false
  x_WrongFrames_WrongFrames : PySem.W.exmOne K (.ref (He.ga K "WrongFrames")) (.ref (He.ga K "WrongFrames")) = some true
  kit0 : PySem.W.kitOne K (.ref (He.ga K "WrongFrames")) (.ref (He.ga K "WrongFrames")) = some true
  kit1 : PySem.W.kitOne K (.ref (He.ga K "WrongFrames")) (.type "ValueError") = some true
/-! ### walking errors -/
section
variable {K : PySem.W.Frag} {σ : L2.St} {H : Hp} {Q : VK} {t : TA} {sp : Sp} {E : L2.St → XK} {D : Ends} {tb : WX → TS} {ts : Addr → Value → Option Addr → TS} {Wout : WX} {cs : List Value} {c : Value} {i : Nat}
theorem x_callS (h : t σ H fun vs H1 => sp vs H1 Q (E σ)) : tCallS sp E t σ H Q := h
theorem x_tryTup (h : tb (wTup K cs ts D) D σ H) : tTryTup K cs tb ts D σ H := h
theorem x_tryAs (h : tb (wAs K c i ts Wout D) D σ H) : tTryAs K c i tb ts Wout D σ H := h
theorem x_tryOnly (h : tb (wOnly K c ts Wout D) D σ H) : tTryOnly K c tb ts Wout D σ H := h
theorem exm3 {K : PySem.W.Frag} {cls c1 c2 c3 : Value} {b1 b2 b3 : Bool} (h1 : PySem.W.exmOne K cls c1 = some b1) (h2 : PySem.W.exmOne K cls c2 = some b2) (h3 : PySem.W.exmOne K cls c3 = some b3) (h : (b1 || (b2 || (b3 || false))) = true) : PySem.W.exmAny K cls [c1, c2, c3] = some true := by
  simp only [PySem.W.exmAny, h1, h2, h3, h]
end
local macro_rules | `(tactic| walk_at "rd1") => `(tactic| first | with_reducible refine x_callS ?_ | with_reducible refine x_raise ?_ | with_reducible refine x_tryTup ?_ | with_reducible refine x_tryAs ?_ | with_reducible refine x_tryOnly ?_)
/-! ### the draws -/
def sp__law_draws (K : PySem.W.Frag) : Sp := fun vs H Q _ => ∃ (a : Addr) (ns : List Int), vs = [.ref a] ∧ SqL K H a (ns.map V.int) ∧ ns.length ≤ 63 ∧ ∀ (ds : List Int) (p : Addr), ds.length ≤ 3780 → H p = none → Q (.ref p) (upd H p (.lst (ds.map V.int)))
def atD (ns : List Int) (k m : Int) : Int := if k < ns.length then ns.getD k.toNat 0 % m else 0
theorem atD_nn (ns : List Int) {k m : Int} (h : 0 < m) : 0 ≤ atD ns k m := by
  unfold atD
  split
  · exact Int.emod_nonneg _ (by omega)
  · omega
theorem atD_lt (ns : List Int) {k m : Int} (h : 0 < m) : atD ns k m < m := by
  unfold atD
  split
  · exact Int.emod_lt_of_pos _ h
  · omega
def sp__law_at (K : PySem.W.Frag) : Sp := fun vs H Q _ => ∃ (a : Addr) (ns : List Int) (k m : Int), vs = [.ref a, .int k, .int m] ∧ SqL K H a (ns.map V.int) ∧ 0 ≤ k ∧ 0 < m ∧ Q (.int (atD ns k m)) H
theorem x_at {K : PySem.W.Frag} {a : Addr} {k m : Int} {H : Hp} {Q : VK} {E : XK} (h : ∃ ds : List Int, SqL K H a (ds.map V.int) ∧ 0 ≤ k ∧ 0 < m ∧ ∀ r : Int, 0 ≤ r → r < m → Q (.int r) H) : sp__law_at K ([.ref a, .int k, .int m] ++ []) H Q E := by
  obtain ⟨ds, h, h0, h1, q⟩ := h
  exact ⟨a, ds, k, m, rfl, h, h0, h1, q _ (atD_nn ds h1) (atD_lt ds h1)⟩
local macro_rules | `(tactic| walk_at "at") => `(tactic| ((with_reducible refine x_at ?_); refine' ⟨_, ?sq, ?k0, ?m0, ?_⟩; (case sq => with_reducible walk_at "sq"); (case k0 => omega); (case m0 => omega); intro r hr0 hr1))
local macro_rules | `(tactic| walk_at "ra") => `(tactic| repeat (first | walk_at "rd1" | walk_at "at"))
section
variable {K : PySem.W.Frag}
theorem len__law_draws {vs H Q E} (h : sp__law_draws K vs H Q E) : vs.length = 1 := by
  obtain ⟨_, _, rfl, _⟩ := h; rfl
theorem len__law_at {vs H Q E} (h : sp__law_at K vs H Q E) : vs.length = 3 := by
  obtain ⟨_, _, _, _, rfl, _⟩ := h; rfl
def t__law_at (K : PySem.W.Frag) : TS := (tSeq (tIfS (tTest (tOp rLt (tVar 1) (tCB (rLenSq K) (tCons (tVar 0) tNil)))) (tRet (tOp rMo (tCB rInt1 (tCons (tOp (rIxL K) (tVar 0) (tVar 1)) tNil)) (tVar 2)))
  tNext)
  (tRet (tC (.int 0))))

theorem pure__law_at (_cd : Cxs K) (vs : List V) (H : Hp) (Q : VK) (E : XK) (h : sp__law_at K vs H Q E) : t__law_at K { nx := fun _ H' => Q .non H', rt := Q } (start ["_law_draws_here", "_law_k", "_law_many"] vs) H := by
  obtain ⟨a, ns, k, m, rfl, hS, h0, hm, q⟩ := h
  unfold t__law_at
  walk_at "rd"
  refine ifd (fun hc => ?_) (fun hc => ?_)
  · rw [List.length_map] at hc
    walk_at "rd"
    rw [atD, if_pos hc] at q
    exact q
  · rw [List.length_map] at hc
    walk_at "rd"
    rw [atD, if_neg hc] at q
    exact q
def t__law_draws (K : PySem.W.Frag) : TS := (tSeq (tAsg (tLst tNil) (gName 1))
  (tSeq (tFor (iRng1 (tCons (tCB rMin2 (tCons (tC (.int 63)) (tCons (tCB (rLenSq K) (tCons (tVar 0) tNil)) tNil))) tNil)) (gName 2)
  (tSeq (tAsg (tCB rAbs (tCons (tOp (rIxL K) (tVar 0) (tVar 2)) tNil)) (gName 3))
  (tIfS (tTest (tOp rGe (tVar 3) (tOp rPo (tC (.int 10)) (tC (.int 18))))) (tFor (iRng1 (tCons (tC (.int 60)) tNil)) (gName 4)
  (tIfS (tTest (tOp rGt (tVar 3) (tC (.int 0)))) (tSeq (tDrop (tBM K "list" rAppend (tVar 1) (tCons (tOp rMo (tCB rInt1 (tCons (tVar 3) tNil)) (tC (.int 65536))) tNil)))
  (tAsg (tOp rDi (tVar 3) (tC (.int 65536))) (gName 3)))
  tNext))
  (tSeq (tAsg (tOp rMo (tCB rInt1 (tCons (tOp rPl (tOp rMu (tVar 3) (tC (.int 48271))) (tOp rMu (tOp rPl (tVar 2) (tC (.int 1))) (tC (.int 69621)))) tNil)) (tC (.int 2147483647))) (gName 5))
  (tSeq (tAsg (tOp rMo (tCB rInt1 (tCons (tOp rPl (tOp rPl (tOp rMu (tVar 5) (tC (.int 16807))) (tOp rMu (tC (.int 11)) (tVar 2))) (tC (.int 5))) tNil)) (tC (.int 2147483629))) (gName 5))
  (tSeq (tDrop (tBM K "list" rAppend (tVar 1) (tCons (tOp rMo (tCB rInt1 (tCons (tVar 5) tNil)) (tC (.int 65536))) tNil)))
  (tDrop (tBM K "list" rAppend (tVar 1) (tCons (tOp rMo (tCB rInt1 (tCons (tOp rDi (tVar 5) (tC (.int 65536))) tNil)) (tC (.int 32768))) tNil)))))))))
  (tRet (tVar 1))))

theorem pure__law_draws (_cd : Cxs K) (vs : List V) (H : Hp) (Q : VK) (E : XK) (h : sp__law_draws K vs H Q E) : t__law_draws K { nx := fun _ H' => Q .non H', rt := Q } (start ["_law_script", "_law_draws_here", "_law_k", "_law_rest", "_law_turn", "_law_mixed"] vs) H := by
  obtain ⟨a, ns, rfl, hS, hl, q⟩ := h
  unfold t__law_draws
  walk_at "rd"
  refine ⟨Nat.zero_le _, fun p hp => ?_⟩
  walk_at "rd"
  rw [List.length_map]
  refine x_r1 (by constructor <;> split <;> omega) ?_
  refine w_rng (fun i σ H' => ∃ (ds : List Int) (v2 v3 v4 v5 : Option V), σ = [some (.ref a), some (.ref p), v2, v3, v4, v5] ∧ H' = upd H p (.lst (ds.map V.int)) ∧ ds.length ≤ 60 * i) ?_ ?_ ?_
  · exact ⟨[], _, _, _, _, rfl, rfl, Nat.le_refl _⟩
  · rintro i σ H' hi ⟨ds, v2, v3, v4, v5, rfl, rfl, hd⟩
    have hi' : i < ns.length := by
      split at hi <;> omega
    walk_at "rd"
    have e18 : (10 : Int) ^ Int.toNat 18 = 1000000000000000000 := by decide
    rw [e18]
    generalize hz : (if ns.getD (0 + (i : Int)).toNat 0 < 0 then -ns.getD (0 + (i : Int)).toNat 0 else ns.getD (0 + (i : Int)).toNat 0) = z
    have hz0 : 0 ≤ z := by
      rw [← hz]
      split <;> omega
    refine ifd (fun hc => ?_) (fun hc => ?_)
    · walk_at "rd"
      refine x_r1 (by omega) ?_
      refine w_rng (fun j σ H' => ∃ (es : List Int) (z v4 : Int) (v4 v5 : Option V), σ = [some (.ref a), some (.ref p), some (.int (0 + i)), some (.int z), v4, v5] ∧ H' = upd H p (.lst (es.map V.int)) ∧ es.length ≤ ds.length + j ∧ 0 ≤ z) ?_ ?_ ?_
      · exact ⟨ds, z, 0, _, _, rfl, rfl, Nat.le_refl _, hz0⟩
      · rintro j σ H' hj ⟨es, z, _, v4, v5, rfl, rfl, he, hz⟩
        have hj' : j < 60 := by simpa using hj
        walk_at "rd"
        refine ifd (fun hc => ?_) (fun hc => ?_)
        · walk_at "rd"
          rw [upd_upd]
          refine ⟨es ++ [z % 65536], z / 65536, 0, _, _, rfl, by rw [List.map_append]; rfl, by rw [List.length_append]; show es.length + 1 ≤ _; omega, by omega⟩
        · walk_at "rd"
          exact ⟨es, z, 0, _, _, rfl, rfl, by omega, hz⟩
      · rintro σ H' ⟨es, z, _, v4, v5, rfl, rfl, he, hz⟩
        exact ⟨es, _, _, _, _, rfl, rfl, by simp at he; omega⟩
    · walk_at "rd"
      rw [upd_upd, upd_upd, List.append_assoc]
      exact ⟨ds ++ [_, _], _, _, _, _, rfl, by rw [List.map_append]; rfl, by rw [List.length_append]; show ds.length + 2 ≤ _; omega⟩
  · rintro σ H' ⟨ds, v2, v3, v4, v5, rfl, rfl, hd⟩
    walk_at "rd"
    refine q ds p ?_ hp
    split at hd <;> omega
end
/-! ### slices of ints -/
def cutI (xs : List Int) (lo hi : Option Int) : List Int := (xs.drop (HT.sIx xs.length 0 lo)).take (HT.sIx xs.length xs.length hi - HT.sIx xs.length 0 lo)
theorem cutV_map (xs : List Int) (lo hi : Option Int) : cutV (xs.map V.int) lo hi = (cutI xs lo hi).map V.int := by
  unfold cutV cutI
  rw [List.length_map, List.map_take, List.map_drop]
theorem cutI_len (xs : List Int) (lo hi : Option Int) : (cutI xs lo hi).length ≤ xs.length := by
  unfold cutI
  rw [List.length_take, List.length_drop]
  omega
/-! ### comprehensions of whole numbers -/
section
variable {σ : L2.St} {H : Hp} {te : TE} {tt : TT} {K : PySem.W.Frag} {Q : VK}
/-- [e for i in range(..)], e a whole number that leaves the heap as it is -/
theorem w_lcI {n : Nat} {lo : Int} {j : Nat} (P : Nat → Int → Prop) (hb : n ≤ 1000000) (hs : ∀ i H' (R : VK), Ex H H' → i < n → (∀ z, P i z → R (.int z) H') → te (σ.set j (some (.int (lo + i)))) H' R)
    (hd : ∀ D (ns : List Int), H D = none → ns.length = n → (∀ i, i < n → P i (ns.getD i 0)) → Q (.ref D) (upd H D (.lst (ns.map V.int)))) : tLcJ (Itr lo n) (gName j) tYes te [j] σ H Q := by
  refine w_lcR (fun D i acc H' => H' = upd H D (.lst acc) ∧ ∃ ns : List Int, acc = ns.map V.int ∧ ns.length = i ∧ ∀ k, k < i → P k (ns.getD k 0)) (fun D hD => ⟨rfl, [], rfl, rfl, fun k h => absurd h (Nat.not_lt_zero k)⟩) ?_ ?_
  · rintro D i acc H' hD hi ⟨rfl, ns, rfl, hl, hp⟩
    refine hs i _ _ (Ex.new hD) hi (fun z hz => ⟨_, upd_same, ?_, ns.map V.int ++ [.int z], upd_upd .., ns ++ [z], by rw [List.map_append]; rfl, by rw [List.length_append, hl]; rfl, fun k hk => ?_⟩)
    · refine sz_lt ?_
      rw [List.length_map]
      omega
    · by_cases c : k < i
      · rw [List.getD_eq_getElem?_getD, List.getElem?_append_left (by omega), ← List.getD_eq_getElem?_getD]
        exact hp k c
      · have : k = ns.length := by omega
        subst this
        rw [List.getD_eq_getElem?_getD, List.getElem?_append_right (Nat.le_refl _), Nat.sub_self, hl]
        exact hz
  · rintro D acc H' hD ⟨rfl, ns, rfl, hl, hp⟩
    exact hd D ns hD hl hp
/-- [x for x in xs if ..], xs whole numbers, the test leaves the heap as it is -/
theorem w_lcF {a : Addr} {xs : List Int} {j : Nat} (p : Int → Bool) (hj : j < σ.length) (ha : SqL K H a (xs.map V.int)) (hb : xs.length ≤ 1000000) (ht : ∀ x H' (R : Bool → Hp → Prop), Ex H H' → R (p x) H' → tt (σ.set j (some (.int x))) H' R)
    (hd : ∀ D, H D = none → Q (.ref D) (upd H D (.lst ((xs.filter p).map V.int)))) : tLcJ (Itl K a) (gName j) tt (tVar j) [j] σ H Q := fun D hD => by
  refine lc_list (K := K) (a := a) (xs := xs.map V.int) (fun i H' => H' = upd H D (.lst (((xs.take i).filter p).map V.int))) rfl (fun i H' _ e => e ▸ Ex.l (Ex.new hD) ha) (fun i x H' hx e => ?_) fun H' e => ?_
  · subst e
    obtain ⟨z, hz, rfl⟩ : ∃ z, xs[i]? = some z ∧ V.int z = x := by
      rw [List.getElem?_map] at hx
      cases h : xs[i]? with
      | none => rw [h] at hx; cases hx
      | some z => rw [h] at hx; exact ⟨z, rfl, Option.some.inj hx⟩
    have hw : ((wipe σ [j]).set j (some (V.int z))) = σ.set j (some (V.int z)) := List.set_set ..
    have tk : xs.take (i + 1) = xs.take i ++ [z] := by rw [List.take_succ, hz]; rfl
    refine ⟨wipe1 σ j (some (.int z)), ?_⟩
    rw [hw]
    refine ht z _ _ (Ex.new hD) ?_
    by_cases c : p z = true
    · rw [if_pos c]
      refine ⟨_, by rw [List.getElem?_set_self hj], ?_⟩
      refine ⟨_, upd_same, ?_, ?_⟩
      · refine sz_lt ?_
        rw [List.length_map]
        have h1 := List.length_filter_le p (xs.take i)
        have h2 : (xs.take i).length ≤ i := by rw [List.length_take]; omega
        have h3 : i < xs.length := (List.getElem?_eq_some_iff.mp hz).1
        omega
      · rw [upd_upd, tk, List.filter_append]
        simp [List.filter, c]
    · rw [if_neg c, tk, List.filter_append]
      simp [List.filter, c]
  · rw [List.length_map, List.take_length] at e
    subst e
    exact hd D hD
end
--SPLIT
/-! ### numbers in steps of seven bits, frames -/
def steps (n : Nat) : List Int := if n < 128 then [(n : Int)] else [((n % 128 + 128 : Nat) : Int), ((n / 128 : Nat) : Int)]
inductive GR where
  | ok (n : Int) (after : Nat)
  | tr
  | loose
  | out
/-- get_steps, f of nine turns to go -/
def gs (data : List Int) (a : Nat) : Nat → Int → GR
  | 0, _ => .out
  | f + 1, n => if data.length ≤ a + (8 - f) then .tr else
    if data.getD (a + (8 - f)) 0 < 128 then (if 0 < 8 - f ∧ data.getD (a + (8 - f)) 0 = 0 then .loose else .ok (n + data.getD (a + (8 - f)) 0 % 128 * 2 ^ (7 * (8 - f))) (a + (8 - f) + 1))
    else gs data a f (n + data.getD (a + (8 - f)) 0 % 128 * 2 ^ (7 * (8 - f)))
def fz (data : List Int) (a : Nat) : Option (Int × Nat) := match gs data a 9 0 with
  | .ok n b => if 256 < n ∨ (data.length : Int) < b + n then none else some (n, b)
  | _ => none
def rf (data : List Int) : Nat → Nat → List (List Int) ⊕ Nat
  | 0, _ => .inl []
  | f + 1, a => if a < data.length then (match fz data a with
      | none => .inr a
      | some (n, _) => (match rf data f (a + (steps n.toNat).length + n.toNat) with
        | .inl es => .inl (cutI data (some (a + (steps n.toNat).length : Nat)) (some (a + (steps n.toNat).length + n.toNat : Nat)) :: es)
        | .inr x => .inr x))
    else .inl []
def rfd (data : List Int) : List (List Int) ⊕ Nat := rf data (data.length + 1) 0
/-- lists at as -/
def EsAt (H : Hp) (as : List Addr) (es : List (List Int)) : Prop := as.length = es.length ∧ ∀ (i : Nat) (a : Addr) (e : List Int), as[i]? = some a → es[i]? = some e → H a = some (.lst (e.map V.int))
theorem EsAt.mono {H H' : Hp} {as : List Addr} {es : List (List Int)} (h : EsAt H as es) (k : ∀ b o, b ∈ as → H b = some o → H' b = some o) : EsAt H' as es :=
  ⟨h.1, fun i a e h1 h2 => k _ _ (List.mem_of_getElem? h1) (h.2 i a e h1 h2)⟩
theorem EsAt.snoc {H : Hp} {as : List Addr} {es : List (List Int)} {u : Addr} {x : List Int} (h : EsAt H as es) (hu : H u = some (.lst (x.map V.int))) : EsAt H (as ++ [u]) (es ++ [x]) := by
  refine ⟨by rw [List.length_append, List.length_append, h.1]; rfl, fun i a e h1 h2 => ?_⟩
  by_cases c : i < as.length
  · rw [List.getElem?_append_left c] at h1
    rw [List.getElem?_append_left (by rw [← h.1]; exact c)] at h2
    exact h.2 i a e h1 h2
  · rw [List.getElem?_append_right (by omega)] at h1
    rw [List.getElem?_append_right (by rw [← h.1]; omega)] at h2
    obtain ⟨h3, rfl⟩ : i - as.length = 0 ∧ u = a := by
      cases e1 : i - as.length with
      | zero => rw [e1] at h1; exact ⟨rfl, Option.some.inj h1⟩
      | succ n => rw [e1] at h1; cases h1
    rw [← h.1, h3] at h2
    cases h2
    exact hu
def sp_put_steps (K : PySem.W.Frag) : Sp := fun vs H Q _ => ∃ n : Nat, vs = [.int n] ∧ n < 16384 ∧ ∀ p, H p = none → Q (.ref p) (upd H p (.lst ((steps n).map V.int)))
def GsP (K : PySem.W.Frag) (H : Hp) (Q : VK) (E : XK) (data : List Int) (k : Nat) : GR → Prop
  | .ok n b => ∀ t, H t = none → Q (.ref t) (upd H t (.tup [.int n, .int b]))
  | .tr => Errs K E "Truncated" data.length H
  | .loose => Errs K E "LooseNumber" k H
  | .out => Errs K E "OutOfRange" k H
def sp_get_steps (K : PySem.W.Frag) : Sp := fun vs H Q E => ∃ (a : Addr) (data : List Int) (k : Nat), vs = [.ref a, .int k] ∧ H a = some (.lst (data.map V.int)) ∧ k ≤ data.length ∧ data.length ≤ 1000000 ∧ GsP K H Q E data k (gs data k 9 0)
def FzP (K : PySem.W.Frag) (H : Hp) (Q : VK) (E : XK) (k : Nat) : Option (Int × Nat) → Prop
  | some (n, _) => ∀ H', Ex H H' → Q (.int n) H'
  | none => ∀ H', Ex H H' → Errs K E "WrongFrames" k H'
def sp_frame_size (K : PySem.W.Frag) : Sp := fun vs H Q E => ∃ (a : Addr) (data : List Int) (k : Nat), vs = [.ref a, .int k] ∧ H a = some (.lst (data.map V.int)) ∧ k ≤ data.length ∧ data.length ≤ 1000000 ∧ FzP K H Q E k (fz data k)
def RfP (K : PySem.W.Frag) (H : Hp) (Q : VK) (E : XK) : List (List Int) ⊕ Nat → Prop
  | .inl es => ∀ as p H', Ex H H' → (∀ b ∈ as, H b = none) → H p = none → p ∉ as → H' p = some (.lst (as.map V.ref)) → EsAt H' as es → Q (.ref p) H'
  | .inr x => ∀ H', Ex H H' → Errs K E "WrongFrames" x H'
def sp_read_frames (K : PySem.W.Frag) : Sp := fun vs H Q E => ∃ (a : Addr) (data : List Int), vs = [.ref a] ∧ H a = some (.lst (data.map V.int)) ∧ data.length ≤ 1000000 ∧ RfP K H Q E (rfd data)
section
variable {K : PySem.W.Frag}
theorem len_put_steps {vs H Q E} (h : sp_put_steps K vs H Q E) : vs.length = 1 := by
  obtain ⟨_, rfl, _⟩ := h; rfl
theorem len_get_steps {vs H Q E} (h : sp_get_steps K vs H Q E) : vs.length = 2 := by
  obtain ⟨_, _, _, rfl, _⟩ := h; rfl
theorem len_frame_size {vs H Q E} (h : sp_frame_size K vs H Q E) : vs.length = 2 := by
  obtain ⟨_, _, _, rfl, _⟩ := h; rfl
theorem len_read_frames {vs H Q E} (h : sp_read_frames K vs H Q E) : vs.length = 1 := by
  obtain ⟨_, _, rfl, _⟩ := h; rfl
def t_put_steps (K : PySem.W.Frag) : TS := (tSeq (tIfS (tOr (tTest (tOp rLt (tVar 0) (tC (.int 0)))) (tTest (tOp rGe (tVar 0) (tC (.int 9223372036854775808))))) (tRaise K "OutOfRange" W0 (tCons (tC (.int 0)) tNil))
  tNext)
  (tSeq (tAsg (tLst tNil) (gName 1))
  (tSeq (tWhile (tTest (tOp rGe (tVar 0) (tC (.int 128)))) (tSeq (tDrop (tBM K "list" rAppend (tVar 1) (tCons (tOp rPl (tC (.int 128)) (tOp rBand (tVar 0) (tC (.int 127)))) tNil)))
  (tAsg (tOp rShr (tVar 0) (tC (.int 7))) (gName 0))))
  (tSeq (tDrop (tBM K "list" rAppend (tVar 1) (tCons (tVar 0) tNil)))
  (tRet (tVar 1))))))

theorem pure_put_steps (cx : Cxs K) (vs : List V) (H : Hp) (Q : VK) (E : XK) (h : sp_put_steps K vs H Q E) : t_put_steps K { nx := fun _ H' => Q .non H', rt := Q } (start ["number", "data"] vs) H := by
  obtain ⟨n, rfl, hn, q⟩ := h
  unfold t_put_steps
  walk_at "rdv"
  refine ifd (fun hc => absurd hc (by omega)) (fun _ => ?_)
  walk_at "rdv"
  walk_at "al"
  intro p hp
  walk_at "rd"
  refine w_while 1 (fun m σ H' => ∃ (k : Nat) (ds : List Int), σ = [some (.int k), some (.ref p)] ∧ H' = upd H p (.lst (ds.map V.int)) ∧ ((m = 1 ∧ k = n ∧ ds = []) ∨ (m = 0 ∧ k < 128 ∧ ds ++ [(k : Int)] = steps n))) ?_ ?_
  · exact ⟨n, [], rfl, rfl, .inl ⟨rfl, rfl, rfl⟩⟩
  · rintro m σ H' ⟨k, ds, rfl, rfl, hk⟩
    walk_at "rd"
    refine ifd (fun hc => ?_) (fun hc => ?_)
    · rcases hk with ⟨rfl, rfl, rfl⟩ | ⟨_, h2, _⟩
      · refine ⟨_, fun σ' H' h => ⟨0, by decide, h⟩, ?_⟩
        walk_at "rd"
        rw [upd_upd]
        refine ⟨k / 128, [((k % 128 + 128 : Nat) : Int)], ?_, ?_, .inr ⟨rfl, by omega, ?_⟩⟩
        · have : ((k : Int) / 2 ^ (7 : Int).toNat) = ((k / 128 : Nat) : Int) := by
            show (k : Int) / 128 = _
            omega
          show [some (V.int _), _] = _
          rw [this]
        · have : (128 + Builtin.bitAnd (k : Int) 127 : Int) = ((k % 128 + 128 : Nat) : Int) := by
            rw [PyProof.Rows.bitAnd_m7]
            omega
          rw [this]
          rfl
        · unfold steps
          rw [if_neg (by omega)]
          rfl
      · omega
    · have e : ds ++ [(k : Int)] = steps n := by
        rcases hk with ⟨rfl, rfl, rfl⟩ | ⟨_, _, h3⟩
        · unfold steps
          rw [if_pos (by omega)]
          rfl
        · exact h3
      have hl : ds.length < 3 := by
        have := congrArg List.length e
        rw [List.length_append] at this
        have h2 : (steps n).length ≤ 2 := by unfold steps; split <;> simp
        simp at this
        omega
      walk_at "rd"
      rw [upd_upd]
      have := q p hp
      rw [← e, List.map_append] at this
      exact this
def t_get_steps (K : PySem.W.Frag) (E : XK) : TS := (tSeq (tIfS (tOr (tTest (tOp rLt (tVar 1) (tC (.int 0)))) (tTest (tOp rGt (tVar 1) (tCB (rLenSq K) (tCons (tVar 0) tNil))))) (tRaise K "OutOfRange" (wE E) (tCons (tC (.int 0)) tNil))
  tNext)
  (tSeq (tAsg (tC (.int 0)) (gName 2))
  (tSeq (tFor (iRng1 (tCons (tC (.int 9)) tNil)) (gName 3)
  (tSeq (tIfS (tTest (tOp rGe (tOp rPl (tVar 1) (tVar 3)) (tCB (rLenSq K) (tCons (tVar 0) tNil)))) (tRaise K "Truncated" (wE E) (tCons (tCB (rLenSq K) (tCons (tVar 0) tNil)) tNil))
  tNext)
  (tSeq (tAsg (tOp (rIxL K) (tVar 0) (tOp rPl (tVar 1) (tVar 3))) (gName 4))
  (tSeq (tAsg (tOp rPl (tVar 2) (tOp rShl (tOp rBand (tVar 4) (tC (.int 127))) (tOp rMu (tC (.int 7)) (tVar 3)))) (gName 2))
  (tIfS (tTest (tOp rLt (tVar 4) (tC (.int 128)))) (tSeq (tIfS (tAnd (tTest (tOp rGt (tVar 3) (tC (.int 0)))) (tTest (tOp rEq (tVar 4) (tC (.int 0))))) (tRaise K "LooseNumber" (wE E) (tCons (tVar 1) tNil))
  tNext)
  (tRet (tTup (tCons (tVar 2) (tCons (tOp rPl (tOp rPl (tVar 1) (tVar 3)) (tC (.int 1))) tNil)))))
  tNext)))))
  (tRaise K "OutOfRange" (wE E) (tCons (tVar 1) tNil)))))

theorem pure_get_steps (cx : Cxs K) (vs : List V) (H : Hp) (Q : VK) (E : XK) (h : sp_get_steps K vs H Q E) : t_get_steps K E { nx := fun _ H' => Q .non H', rt := Q } (start ["data", "at", "number", "k", "byte"] vs) H := by
  obtain ⟨a, data, k, rfl, ha, hk, hl, g⟩ := h
  obtain ⟨f1, e1⟩ := cx.e_Truncated
  obtain ⟨f2, e2⟩ := cx.e_LooseNumber
  obtain ⟨f3, e3⟩ := cx.e_OutOfRange
  unfold t_get_steps
  walk_at "rdv"
  rw [List.length_map]
  refine ifd (fun hc => absurd hc (by omega)) (fun _ => ?_)
  walk_at "rdv"
  refine x_r1 (by omega) ?_
  refine w_rng (fun i σ H' => ∃ (m : Int) (v3 v4 : Option V), σ = [some (.ref a), some (.int k), some (.int m), v3, v4] ∧ H' = H ∧ gs data k (9 - i) m = gs data k 9 0) ?_ ?_ ?_
  · exact ⟨0, _, _, rfl, rfl, rfl⟩
  · rintro i σ H' hi ⟨m, v3, v4, rfl, rfl, e⟩
    have hi9 : i < 9 := hi
    obtain ⟨f, hf⟩ : ∃ f, 9 - i = f + 1 := ⟨8 - i, by omega⟩
    have h8 : 8 - f = i := by omega
    rw [← e, hf] at g
    unfold gs at g
    rw [h8] at g
    walk_at "rdv"
    rw [List.length_map]
    refine ifd (fun hc => ?_) (fun hc => ?_)
    · rw [if_pos (by omega)] at g
      walk_at "rdv"
      rw [List.length_map]
      exact x_raiseK e1 g
    · rw [if_neg (by omega)] at g
      walk_at "rdv"
      have ek : ((k : Int) + (0 + (i : Int))).toNat = k + i := by omega
      rw [ek]
      refine x_I ⟨by omega, by omega, by rw [PyProof.Rows.bitAnd_m7]; omega⟩ ?_
      have e7 : m + Builtin.bitAnd (data.getD (k + i) 0) 127 * 2 ^ (7 * (0 + (i : Int))).toNat = m + data.getD (k + i) 0 % 128 * 2 ^ (7 * i) := by
        rw [PyProof.Rows.bitAnd_m7, show (7 * (0 + (i : Int))).toNat = 7 * i by omega]
      walk_at "rdv"
      rw [e7]
      refine ifd (fun hc2 => ?_) (fun hc2 => ?_)
      · rw [if_pos hc2] at g
        walk_at "rdv"
        refine ifd (fun hc3 => ?_) (fun hc3 => ?_)
        · walk_at "rdv"
          refine ifd (fun hc4 => ?_) (fun hc4 => ?_)
          · have h0 : data.getD (k + i) 0 = 0 := V.int.inj hc4
            rw [if_pos ⟨by omega, h0⟩] at g
            walk_at "rdv"
            exact x_raiseK e2 g
          · have hc5 : ¬ (0 < i ∧ data.getD (k + i) 0 = 0) := fun z => hc4 (by rw [z.2])
            rw [if_neg hc5] at g
            walk_at "rdv"
            walk_at "al"
            intro t ht
            have := g t ht
            rw [show ((k + i + 1 : Nat) : Int) = (k : Int) + (0 + (i : Int)) + 1 by omega] at this
            exact this
        · have hc5 : ¬ (0 < i ∧ data.getD (k + i) 0 = 0) := fun z => absurd z.1 (by omega)
          rw [if_neg hc5] at g
          walk_at "rdv"
          walk_at "al"
          intro t ht
          have := g t ht
          rw [show ((k + i + 1 : Nat) : Int) = (k : Int) + (0 + (i : Int)) + 1 by omega] at this
          exact this
      · rw [if_neg hc2] at g
        walk_at "rdv"
        refine ⟨_, _, _, rfl, rfl, ?_⟩
        rw [show 9 - (i + 1) = f by omega, ← e, hf]
        conv => rhs; unfold gs
        rw [h8, if_neg (by omega), if_neg hc2]
  · rintro σ H' ⟨m, v3, v4, rfl, rfl, e⟩
    rw [← e] at g
    walk_at "rdv"
    exact x_raiseK e3 g
theorem gs_nonneg (data : List Int) (k : Nat) : ∀ (f : Nat) (m : Int) {n : Int} {b : Nat}, 0 ≤ m → gs data k f m = .ok n b → 0 ≤ n
  | 0, m, n, b, h, e => by
    unfold gs at e
    cases e
  | f + 1, m, n, b, h, e => by
    have h1 : 0 ≤ data.getD (k + (8 - f)) 0 % 128 := Int.emod_nonneg _ (by decide)
    have h3 : (0 : Int) ≤ 2 ^ (7 * (8 - f)) := Int.pow_nonneg (by decide)
    have h2 : 0 ≤ data.getD (k + (8 - f)) 0 % 128 * 2 ^ (7 * (8 - f)) := Int.mul_nonneg h1 h3
    unfold gs at e
    split at e
    · cases e
    · split at e
      · split at e
        · cases e
        · cases e
          omega
      · exact gs_nonneg data k f _ (by omega) e
def t_frame_size (K : PySem.W.Frag) (E : XK) : TS := (tSeq (tTryTup K [.ref (He.ga K "Truncated"), .ref (He.ga K "LooseNumber"), .ref (He.ga K "OutOfRange")] (fun W1 => (tAsg (tCallS (sp_get_steps K) (WE W1) (tCons (tVar 0) (tCons (tVar 1) tNil))) (gTup K 2 (gCons (gName 2) (gCons (gName 3) gNil))))) (fun a1 cls1 d1 => (tRaise K "WrongFrames" (wE E) (tCons (tVar 1) tNil))))
  (tSeq (tIfS (tOr (tTest (tOp rGt (tVar 2) (tC (.int 256)))) (tTest (tOp rGt (tOp rPl (tVar 3) (tVar 2)) (tCB (rLenSq K) (tCons (tVar 0) tNil))))) (tRaise K "WrongFrames" (wE E) (tCons (tVar 1) tNil))
  tNext)
  (tRet (tVar 2))))

theorem pure_frame_size (cx : Cxs K) (vs : List V) (H : Hp) (Q : VK) (E : XK) (h : sp_frame_size K vs H Q E) : t_frame_size K E { nx := fun _ H' => Q .non H', rt := Q } (start ["data", "at", "size", "after"] vs) H := by
  obtain ⟨a, data, k, rfl, ha, hk, hl, g⟩ := h
  obtain ⟨f4, e4⟩ := cx.e_WrongFrames
  unfold t_frame_size
  walk_at "rd"
  refine ⟨a, data, k, rfl, ha, hk, hl, ?_⟩
  cases e : gs data k 9 0 with
  | ok n b =>
    have hn := gs_nonneg data k 9 0 (Int.le_refl _) e
    intro t ht
    walk_at "rdv"
    refine ifd (fun hc => ?_) (fun hc => ?_)
    · have g : ∀ H', Ex H H' → Errs K E "WrongFrames" k H' := by
        rw [show fz data k = none by unfold fz; rw [e]; exact if_pos (Or.inl hc)] at g
        exact g
      walk_at "rdv"
      exact x_raiseK e4 (g _ (Ex.new ht))
    · walk_at "rdv"
      rw [List.length_map]
      refine ifd (fun hc2 => ?_) (fun hc2 => ?_)
      · have g : ∀ H', Ex H H' → Errs K E "WrongFrames" k H' := by
          rw [show fz data k = none by unfold fz; rw [e]; exact if_pos (Or.inr hc2)] at g
          exact g
        walk_at "rdv"
        exact x_raiseK e4 (g _ (Ex.new ht))
      · have g : ∀ H', Ex H H' → Q (.int n) H' := by
          rw [show fz data k = some (n, b) by unfold fz; rw [e]; exact if_neg (not_or.mpr ⟨hc, hc2⟩)] at g
          exact g
        walk_at "rdv"
        exact g _ (Ex.new ht)
  | tr =>
    rw [show fz data k = none by unfold fz; rw [e]] at g
    intro d hd
    refine ⟨exm3 cx.x_Truncated_Truncated cx.x_Truncated_LooseNumber cx.x_Truncated_OutOfRange rfl, fun a0 _ => ?_⟩
    walk_at "rd"
    exact x_raiseK e4 (g _ (Ex.new hd))
  | loose =>
    rw [show fz data k = none by unfold fz; rw [e]] at g
    intro d hd
    refine ⟨exm3 cx.x_LooseNumber_Truncated cx.x_LooseNumber_LooseNumber cx.x_LooseNumber_OutOfRange rfl, fun a0 _ => ?_⟩
    walk_at "rd"
    exact x_raiseK e4 (g _ (Ex.new hd))
  | out =>
    rw [show fz data k = none by unfold fz; rw [e]] at g
    intro d hd
    refine ⟨exm3 cx.x_OutOfRange_Truncated cx.x_OutOfRange_LooseNumber cx.x_OutOfRange_OutOfRange rfl, fun a0 _ => ?_⟩
    walk_at "rd"
    exact x_raiseK e4 (g _ (Ex.new hd))
theorem fz_some {data : List Int} {k : Nat} {n : Int} {b : Nat} (h : fz data k = some (n, b)) : 0 ≤ n ∧ n ≤ 256 := by
  unfold fz at h
  cases e : gs data k 9 0 with
  | ok m c =>
    rw [e] at h
    have hm := gs_nonneg data k 9 0 (Int.le_refl _) e
    by_cases hc : 256 < m ∨ (data.length : Int) < c + m
    · rw [show (match GR.ok m c with | .ok n b => if 256 < n ∨ (data.length : Int) < b + n then none else some (n, b) | _ => none) = none from if_pos hc] at h
      cases h
    · rw [show (match GR.ok m c with | .ok n b => if 256 < n ∨ (data.length : Int) < b + n then none else some (n, b) | _ => none) = some (m, c) from if_neg hc] at h
      cases h
      exact ⟨hm, by omega⟩
  | tr => rw [e] at h; cases h
  | loose => rw [e] at h; cases h
  | out => rw [e] at h; cases h
def addR (es : List (List Int)) : List (List Int) ⊕ Nat → List (List Int) ⊕ Nat
  | .inl r => .inl (es ++ r)
  | .inr x => .inr x
theorem steps_len (n : Nat) : 0 < (steps n).length ∧ (steps n).length ≤ 2 := by
  unfold steps
  split <;> simp
theorem rf_succ (data : List Int) (f a : Nat) {n : Int} {b : Nat} (h : a < data.length) (e : fz data a = some (n, b)) : rf data (f + 1) a = addR [cutI data (some (a + (steps n.toNat).length : Nat)) (some (a + (steps n.toNat).length + n.toNat : Nat))] (rf data f (a + (steps n.toNat).length + n.toNat)) := by
  conv => lhs; unfold rf
  rw [if_pos h, e]
  show (match rf data f (a + (steps n.toNat).length + n.toNat) with | .inl es => _ | .inr x => _) = _
  cases rf data f (a + (steps n.toNat).length + n.toNat) with
  | inl r => rfl
  | inr x => rfl
theorem addR_add (es fs : List (List Int)) (r : List (List Int) ⊕ Nat) : addR (es ++ fs) r = addR es (addR fs r) := by
  cases r with
  | inl r => simp [addR]
  | inr x => rfl
def t_read_frames (K : PySem.W.Frag) (E : XK) : TS := (tSeq (tAsg (tLst tNil) (gName 1))
  (tSeq (tAsg (tC (.int 0)) (gName 2))
  (tSeq (tWhile (tTest (tOp rLt (tVar 2) (tCB (rLenSq K) (tCons (tVar 0) tNil)))) (tSeq (tAsg (tCallS (sp_frame_size K) (WE (wE E)) (tCons (tVar 0) (tCons (tVar 2) tNil))) (gName 3))
  (tSeq (tAsg (tOp rPl (tVar 2) (tCB (rLenSq K) (tCons (tCall (sp_put_steps K) [] E0 (tCons (tVar 3) tNil)) tNil))) (gName 4))
  (tSeq (tDrop (tBM K "list" rAppend (tVar 1) (tCons (tSl (rSlL K) (tVar 0) (tPart (tVar 4)) (tPart (tOp rPl (tVar 4) (tVar 3)))) tNil)))
  (tAsg (tOp rPl (tVar 4) (tVar 3)) (gName 2))))))
  (tRet (tVar 1)))))

theorem pure_read_frames (cx : Cxs K) (vs : List V) (H : Hp) (Q : VK) (E : XK) (h : sp_read_frames K vs H Q E) : t_read_frames K E { nx := fun _ H' => Q .non H', rt := Q } (start ["data", "entries", "at", "size", "after"] vs) H := by
  obtain ⟨a, data, rfl, ha, hl, g⟩ := h
  unfold t_read_frames
  walk_at "rd"
  walk_at "al"
  intro p hp
  walk_at "rd"
  have hpa : a ≠ p := fun z => by rw [z, hp] at ha; cases ha
  refine w_while (data.length + 1) (fun m σ H' => ∃ (k f : Nat) (es : List (List Int)) (as : List Addr) (v3 v4 : Option V), σ = [some (.ref a), some (.ref p), some (.int k), v3, v4] ∧ m = data.length + 1 - k ∧ data.length < k + f ∧ rfd data = addR es (rf data f k) ∧ es.length ≤ k ∧
    Ex H H' ∧ H' p = some (.lst (as.map V.ref)) ∧ (∀ b ∈ as, H b = none) ∧ p ∉ as ∧ EsAt H' as es) ?_ ?_
  · refine ⟨0, data.length + 1, [], [], _, _, rfl, rfl, by omega, ?_, Nat.le_refl _, Ex.new hp, upd_same, (fun b h => by cases h), (by simp), rfl, fun i a e h => by simp at h⟩
    cases h : rf data (data.length + 1) 0 with
    | inl r => exact h
    | inr x => exact h
  · rintro m σ H' ⟨k, f, es, as, v3, v4, rfl, rfl, hf, er, hel, ex, hp', hfr, hpn, hes⟩
    have ha' := ex _ _ ha
    walk_at "rd"
    rw [List.length_map]
    refine ifd (fun hc => ?_) (fun hc => ?_)
    · have hk : k < data.length := by omega
      obtain ⟨f, rfl⟩ : ∃ f', f = f' + 1 := ⟨f - 1, by omega⟩
      refine ⟨_, fun σ' H' h => h, ?_⟩
      walk_at "rd"
      refine ⟨a, data, k, rfl, ha', by omega, hl, ?_⟩
      cases e : fz data k with
      | none =>
        have er2 : rfd data = .inr k := by
          rw [er, show rf data (f + 1) k = .inr k by unfold rf; rw [if_pos hk, e]]
          rfl
        rw [er2] at g
        exact fun H2 ex2 => g _ (ex.trans ex2)
      | some nb =>
        obtain ⟨n, b⟩ := nb
        obtain ⟨hn0, hn1⟩ := fz_some e
        rw [rf_succ data f k hk e] at er
        obtain ⟨n, rfl⟩ := Int.eq_ofNat_of_zero_le hn0
        have sl := steps_len n
        have hal : as.length < 1000000 := by have := hes.1; omega
        simp only [Int.toNat_natCast] at er
        intro H2 ex2
        walk_at "rd"
        refine ⟨n, rfl, by omega, fun q hq => ?_⟩
        have hp2 := ex2 _ _ hp'
        have ha2 := ex2 _ _ ha'
        walk_at "rd"
        rw [cutV_map]
        intro u hu
        walk_at "rd"
        have hul := hu
        rw [upd_eq_none] at hul
        have hu0 : H u = none := Ex.none (ex.trans ex2) hul.2
        have hup : u ≠ p := fun z => by rw [z, hp2] at hul; cases hul.2
        have hqp : p ≠ q := fun z => by rw [← z, hp2] at hq; cases hq
        rw [List.length_map]
        refine ⟨data.length + 1 - (k + (steps n).length + n), by omega, k + (steps n).length + n, f, es ++ [cutI data (some ((k + (steps n).length : Nat) : Int)) (some ((k + (steps n).length + n : Nat) : Int))], as ++ [u], some (.int n), some (.int ((k : Int) + ((steps n).length : Int))), ?_, rfl, by omega, ?_, ?_,
          Ex.mut (((ex.trans ex2).trans (Ex.new hq)).trans (Ex.new hu)) hp, ?_, ?_, ?_, ?_⟩
        · rw [show ((k + (steps n).length + n : Nat) : Int) = (k : Int) + ((steps n).length : Int) + (n : Int) by omega]
          rfl
        · rw [er, ← addR_add]
        · rw [List.length_append]
          show es.length + 1 ≤ _
          omega
        · rw [upd_same, List.map_append]
          rfl
        · intro b hb
          rcases List.mem_append.mp hb with hb | hb
          · exact hfr b hb
          · rw [List.mem_singleton.mp hb]
            exact hu0
        · intro hb
          rcases List.mem_append.mp hb with hb | hb
          · exact hpn hb
          · exact hup (List.mem_singleton.mp hb).symm
        · refine (hes.mono fun b o hb h => ?_).snoc ?_
          · rw [upd_ne (fun z : b = p => hpn (by rw [← z]; exact hb))]
            exact hp_new hu (hp_new hq (ex2 _ _ h))
          · rw [upd_ne hup, upd_same]
            rw [show ((k + (steps n).length + n : Nat) : Int) = (k : Int) + ((steps n).length : Int) + (n : Int) by omega, show ((k + (steps n).length : Nat) : Int) = (k : Int) + ((steps n).length : Int) by omega]
    · have er2 : rfd data = .inl es := by
        rw [er]
        cases f with
        | zero => simp [rf, addR]
        | succ f =>
          rw [show rf data (f + 1) k = .inl [] by unfold rf; rw [if_neg (by omega)]]
          simp [addR]
      rw [er2] at g
      walk_at "rd"
      exact g as p _ ex hfr hp hpn hp' hes
end
--SPLIT
/-! ### frames, one after the other -/
def frame (e : List Int) : List Int := steps e.length ++ e
def encs (es : List (List Int)) : List Int := es.flatMap frame
theorem frame_pos (e : List Int) : 0 < (frame e).length := by
  have := steps_len e.length
  unfold frame
  rw [List.length_append]
  omega
def shG (k : Nat) : GR → GR
  | .ok n b => .ok n (k + b)
  | .tr => .tr
  | .loose => .loose
  | .out => .out
theorem getD_pre (pre t : List Int) (i : Nat) : (pre ++ t).getD (pre.length + i) 0 = t.getD i 0 := by
  rw [List.getD_eq_getElem?_getD, List.getElem?_append_right (by omega), ← List.getD_eq_getElem?_getD]
  congr 1
  omega
theorem gs_pre (pre t : List Int) : ∀ (f : Nat) (n : Int), gs (pre ++ t) pre.length f n = shG pre.length (gs t 0 f n)
  | 0, n => rfl
  | f + 1, n => by
    unfold gs
    rw [List.length_append, getD_pre, Nat.zero_add]
    by_cases c : t.length ≤ 8 - f
    · rw [if_pos (by omega), if_pos c]; rfl
    · rw [if_neg (by omega), if_neg c]
      by_cases c2 : t.getD (8 - f) 0 < 128
      · rw [if_pos c2, if_pos c2]
        by_cases c3 : 0 < 8 - f ∧ t.getD (8 - f) 0 = 0
        · rw [if_pos c3, if_pos c3]; rfl
        · rw [if_neg c3, if_neg c3]; rfl
      · rw [if_neg c2, if_neg c2]
        exact gs_pre pre t f _
theorem gs_steps {n : Nat} (h : n < 16384) (r : List Int) : gs (steps n ++ r) 0 9 0 = .ok n (steps n).length := by
  unfold steps
  by_cases c : n < 128
  · rw [if_pos c]
    show gs ((n : Int) :: r) 0 9 0 = .ok n 1
    unfold gs
    rw [if_neg (by simp)]
    show (if (n : Int) < 128 then (if (0 : Nat) < 8 - 8 ∧ (n : Int) = 0 then GR.loose else .ok (0 + (n : Int) % 128 * 2 ^ (7 * 0)) (0 + 0 + 1)) else _) = _
    rw [if_pos (by omega), if_neg (by omega)]
    rw [show (0 + (n : Int) % 128 * 2 ^ (7 * 0)) = n by omega]
  · rw [if_neg c]
    show gs (((n % 128 + 128 : Nat) : Int) :: ((n / 128 : Nat) : Int) :: r) 0 9 0 = .ok n 2
    unfold gs
    rw [if_neg (by simp)]
    show (if ((n % 128 + 128 : Nat) : Int) < 128 then _ else gs (((n % 128 + 128 : Nat) : Int) :: ((n / 128 : Nat) : Int) :: r) 0 8 (0 + ((n % 128 + 128 : Nat) : Int) % 128 * 2 ^ (7 * 0))) = _
    rw [if_neg (by omega)]
    unfold gs
    rw [if_neg (by simp)]
    show (if ((n / 128 : Nat) : Int) < 128 then (if (0 : Nat) < 8 - 7 ∧ ((n / 128 : Nat) : Int) = 0 then GR.loose else .ok (0 + ((n % 128 + 128 : Nat) : Int) % 128 * 2 ^ (7 * 0) + ((n / 128 : Nat) : Int) % 128 * 2 ^ (7 * 1)) (0 + 1 + 1)) else _) = _
    rw [if_pos (by omega), if_neg (by omega)]
    rw [show (0 + ((n % 128 + 128 : Nat) : Int) % 128 * 2 ^ (7 * 0) + ((n / 128 : Nat) : Int) % 128 * 2 ^ (7 * 1)) = n by omega]
theorem fz_at {pre t : List Int} {n : Int} {b : Nat} (h : gs t 0 9 0 = .ok n b) : fz (pre ++ t) pre.length = if 256 < n ∨ ((pre ++ t).length : Int) < (pre.length + b : Nat) + n then none else some (n, pre.length + b) := by
  unfold fz
  rw [gs_pre, h]
  rfl
theorem fz_bad {pre t : List Int} (h : ∀ n b, gs t 0 9 0 ≠ .ok n b) : fz (pre ++ t) pre.length = none := by
  unfold fz
  rw [gs_pre]
  cases e : gs t 0 9 0 with
  | ok n b => exact absurd e (h n b)
  | tr => rfl
  | loose => rfl
  | out => rfl
theorem cutI_mid (pre e r : List Int) : cutI (pre ++ (e ++ r)) (some (pre.length : Nat)) (some (pre.length + e.length : Nat)) = e := by
  unfold cutI
  rw [HT.sIx_nat, HT.sIx_nat]
  simp only [List.length_append]
  rw [show min pre.length (pre.length + (e.length + r.length)) = pre.length by omega, show min (pre.length + e.length) (pre.length + (e.length + r.length)) = pre.length + e.length by omega, List.drop_left, Nat.add_sub_cancel_left, List.take_left]
theorem rf_frame {pre e r : List Int} {f : Nat} (h : e.length ≤ 256) : rf (pre ++ (frame e ++ r)) (f + 1) pre.length = addR [e] (rf (pre ++ (frame e ++ r)) f (pre.length + (frame e).length)) := by
  have h1 : frame e ++ r = steps e.length ++ (e ++ r) := List.append_assoc ..
  have h2 : fz (pre ++ (frame e ++ r)) pre.length = some ((e.length : Int), pre.length + (steps e.length).length) := by
    rw [h1, fz_at (gs_steps (by omega) _), if_neg]
    simp only [List.length_append]
    omega
  have h3 := frame_pos e
  rw [rf_succ _ _ _ (by simp only [List.length_append]; omega) h2]
  simp only [Int.toNat_natCast]
  have h4 := cutI_mid (pre ++ steps e.length) e r
  rw [List.length_append, List.append_assoc, ← h1] at h4
  rw [h4]
  unfold frame
  rw [List.length_append, Nat.add_assoc]
theorem rf_encs : ∀ (es : List (List Int)) (pre r : List Int) (f : Nat), (∀ e ∈ es, e.length ≤ 256) → rf (pre ++ (encs es ++ r)) (f + es.length) pre.length = addR es (rf (pre ++ (encs es ++ r)) f (pre.length + (encs es).length))
  | [], pre, r, f, _ => by
    show rf (pre ++ r) f pre.length = addR [] (rf (pre ++ r) f (pre.length + 0))
    cases rf (pre ++ r) f (pre.length + 0) <;> simp [addR]
  | e :: es, pre, r, f, h => by
    have h1 : encs (e :: es) ++ r = frame e ++ (encs es ++ r) := by
      show (frame e ++ encs es) ++ r = _
      rw [List.append_assoc]
    have ih := rf_encs es (pre ++ frame e) r f (fun x hx => h x (List.mem_cons_of_mem _ hx))
    rw [List.append_assoc, List.length_append] at ih
    rw [h1, List.length_cons, ← Nat.add_assoc, rf_frame (h e (List.mem_cons_self ..)), ih]
    have h2 : (encs (e :: es)).length = (frame e).length + (encs es).length := by
      show (frame e ++ encs es).length = _
      rw [List.length_append]
    rw [h2, ← Nat.add_assoc]
    cases rf (pre ++ (frame e ++ (encs es ++ r))) f (pre.length + (frame e).length + (encs es).length) <;> simp [addR]
theorem encs_len (es : List (List Int)) : es.length ≤ (encs es).length := by
  induction es with
  | nil => exact Nat.le_refl _
  | cons e es ih =>
    show es.length + 1 ≤ (frame e ++ encs es).length
    have := frame_pos e
    rw [List.length_append]
    omega
/-- all is read -/
theorem rfd_encs {es : List (List Int)} (h : ∀ e ∈ es, e.length ≤ 256) : rfd (encs es) = .inl es := by
  have h1 := encs_len es
  obtain ⟨f, hf⟩ : ∃ f, (encs es).length + 1 = (f + 1) + es.length := ⟨(encs es).length - es.length, by omega⟩
  unfold rfd
  have := rf_encs es [] [] (f + 1) h
  rw [List.append_nil] at this
  rw [hf]
  refine this.trans ?_
  rw [show rf ([] ++ encs es) (f + 1) (([] : List Int).length + (encs es).length) = .inl [] by unfold rf; rw [if_neg (by simp)]]
  simp [addR]
/-- what comes behind can't be read -/
theorem rfd_bad {es : List (List Int)} {t : List Int} (h : ∀ e ∈ es, e.length ≤ 256) (ht : t ≠ []) (b : fz (encs es ++ t) (encs es).length = none) : rfd (encs es ++ t) = .inr (encs es).length := by
  have h1 := encs_len es
  have h2 : 0 < t.length := List.length_pos_iff.mpr ht
  obtain ⟨f, hf⟩ : ∃ f, (encs es ++ t).length + 1 = (f + 1) + es.length := ⟨(encs es ++ t).length - es.length, by rw [List.length_append]; omega⟩
  unfold rfd
  have := rf_encs es [] t (f + 1) h
  rw [hf]
  refine this.trans ?_
  have e : rf ([] ++ (encs es ++ t)) (f + 1) (([] : List Int).length + (encs es).length) = .inr (encs es).length := by
    show rf (encs es ++ t) (f + 1) (0 + (encs es).length) = _
    rw [Nat.zero_add]
    unfold rf
    rw [if_pos (by rw [List.length_append]; omega), b]
  rw [e]
  rfl
/-- a part of a frame -/
theorem fz_part {pre e t r : List Int} (h : e.length ≤ 256) (et : t ++ r = frame e) (hr : r ≠ []) : fz (pre ++ t) pre.length = none := by
  have hl : 0 < r.length := List.length_pos_iff.mpr hr
  have hlen : t.length + r.length = (steps e.length).length + e.length := by
    have := congrArg List.length et
    unfold frame at this
    rw [List.length_append, List.length_append] at this
    exact this
  by_cases c : (steps e.length).length ≤ t.length
  · have : t = steps e.length ++ t.drop (steps e.length).length := by
      have h2 : t.take (steps e.length).length = steps e.length := by
        have := congrArg (List.take (steps e.length).length) et
        rw [List.take_append_of_le_length c] at this
        unfold frame at this
        rw [List.take_left] at this
        exact this
      conv => lhs; rw [← List.take_append_drop (steps e.length).length t, h2]
    have g := gs_steps (n := e.length) (by omega) (t.drop (steps e.length).length)
    rw [← this] at g
    rw [fz_at g, if_pos]
    right
    rw [List.length_append]
    omega
  · refine fz_bad fun n b => ?_
    by_cases c2 : e.length < 128
    · have s1 : steps e.length = [(e.length : Int)] := by unfold steps; rw [if_pos c2]
      rw [s1] at c
      have : t = [] := List.length_eq_zero_iff.mp (by simp at c; exact by simpa using c)
      subst this
      unfold gs
      rw [if_pos (by simp)]
      simp
    · have s1 : steps e.length = [((e.length % 128 + 128 : Nat) : Int), ((e.length / 128 : Nat) : Int)] := by unfold steps; rw [if_neg c2]
      rw [s1] at c
      cases t with
      | nil =>
        unfold gs
        rw [if_pos (by simp)]
        simp
      | cons x t =>
        have : t = [] := List.length_eq_zero_iff.mp (by simp at c; exact by simpa using c)
        subst this
        have hx : x = ((e.length % 128 + 128 : Nat) : Int) := by
          unfold frame at et
          rw [s1] at et
          exact (List.cons.inj et).1
        subst hx
        unfold gs
        rw [if_neg (by simp)]
        show (if ((e.length % 128 + 128 : Nat) : Int) < 128 then _ else gs [((e.length % 128 + 128 : Nat) : Int)] 0 8 _) ≠ _
        rw [if_neg (by omega)]
        unfold gs
        rw [if_pos (by simp)]
        simp
/-- nine bytes, none the last -/
theorem gs_out (t : List Int) (h : ∀ i, i < 9 → i < t.length ∧ ¬ t.getD i 0 < 128) : ∀ (f : Nat) (n : Int), f ≤ 9 → gs t 0 f n = .out
  | 0, n, _ => rfl
  | f + 1, n, hf => by
    obtain ⟨h1, h2⟩ := h (8 - f) (by omega)
    unfold gs
    rw [Nat.zero_add, if_neg (by omega), if_neg h2]
    exact gs_out t h f _ (by omega)
/-! ### where frames begin -/
def st (es : List (List Int)) (i : Nat) : Nat := (encs (es.take i)).length
def sts (es : List (List Int)) (n : Nat) : List Int := (List.range n).map fun i => (st es i : Int)
theorem encs_app (a b : List (List Int)) : encs (a ++ b) = encs a ++ encs b := by
  unfold encs
  rw [List.flatMap_append]
theorem encs_cut (es : List (List Int)) (j : Nat) : encs es = encs (es.take j) ++ encs (es.drop j) := by
  rw [← encs_app, List.take_append_drop]
theorem take_st (es : List (List Int)) (j : Nat) : (encs es).take (st es j) = encs (es.take j) := by
  conv => lhs; rw [encs_cut es j]
  exact List.take_left ..
theorem st_succ {es : List (List Int)} {i : Nat} {e : List Int} (h : es[i]? = some e) : st es (i + 1) = st es i + (frame e).length := by
  unfold st
  rw [List.take_succ, h]
  show (encs (es.take i ++ [e])).length = _
  rw [encs_app, List.length_append]
  show _ + (frame e ++ []).length = _
  rw [List.append_nil]
theorem st_lt1 {es : List (List Int)} {i : Nat} (h : i < es.length) : st es i < st es (i + 1) := by
  rw [st_succ (List.getElem?_eq_getElem h)]
  have := frame_pos es[i]
  omega
theorem st_lt {es : List (List Int)} {i : Nat} : ∀ {j : Nat}, i < j → j ≤ es.length → st es i < st es j
  | 0, h, _ => absurd h (Nat.not_lt_zero _)
  | j + 1, h, hj => by
    have h1 := st_lt1 (es := es) (i := j) (by omega)
    by_cases c : i = j
    · rw [c]; exact h1
    · have := st_lt (es := es) (i := i) (j := j) (by omega) (by omega)
      omega
theorem st_le {es : List (List Int)} {i j : Nat} (h : i ≤ j) (hj : j ≤ es.length) : st es i ≤ st es j := by
  by_cases c : i = j
  · rw [c]; exact Nat.le_refl _
  · exact Nat.le_of_lt (st_lt (by omega) hj)
theorem st_all (es : List (List Int)) : st es es.length = (encs es).length := by
  unfold st
  rw [List.take_length]
theorem sts_succ (es : List (List Int)) (n : Nat) : sts es (n + 1) = sts es n ++ [(st es n : Int)] := by
  unfold sts
  rw [List.range_succ, List.map_append]
  rfl
theorem mem_sts {es : List (List Int)} {n : Nat} {x : Int} : x ∈ sts es n ↔ ∃ i, i < n ∧ (st es i : Int) = x := by
  unfold sts
  simp [List.mem_map, List.mem_range]
theorem sts_filter {es : List (List Int)} {c : Int} {m : Nat} (h1 : ∀ i, i < m → (st es i : Int) < c) : ∀ (n : Nat), m ≤ n → (∀ i, m ≤ i → i < n → ¬ (st es i : Int) < c) → (sts es n).filter (fun x => decide (x < c)) = sts es m
  | n, hm, h2 => by
    by_cases e : n = m
    · rw [e]
      refine List.filter_eq_self.mpr fun x hx => ?_
      obtain ⟨i, hi, rfl⟩ := mem_sts.mp hx
      exact decide_eq_true (h1 i hi)
    · cases n with
      | zero => omega
      | succ n =>
        rw [sts_succ, List.filter_append, sts_filter h1 n (by omega) (fun i a b => h2 i a (by omega))]
        have := h2 n (by omega) (by omega)
        simp [List.filter, this]
theorem where_cut (es : List (List Int)) (c : Nat) (hc : c ≤ (encs es).length) : (∃ j, j ≤ es.length ∧ c = st es j) ∨ ∃ j, j < es.length ∧ st es j < c ∧ c < st es (j + 1) := by
  have key : ∀ n, n ≤ es.length → c ≤ st es n → (∃ j, j ≤ es.length ∧ c = st es j) ∨ ∃ j, j < es.length ∧ st es j < c ∧ c < st es (j + 1) := by
    intro n
    induction n with
    | zero =>
      intro _ h
      have h0 : st es 0 = 0 := rfl
      exact .inl ⟨0, Nat.zero_le _, by omega⟩
    | succ n ih =>
      intro hn h
      by_cases c1 : c ≤ st es n
      · exact ih (by omega) c1
      · by_cases c2 : c = st es (n + 1)
        · exact .inl ⟨n + 1, hn, c2⟩
        · exact .inr ⟨n, by omega, by omega, by omega⟩
  exact key es.length (Nat.le_refl _) (by rw [st_all]; exact hc)
theorem rfd_cut {es : List (List Int)} (h : ∀ e ∈ es, e.length ≤ 256) {c j : Nat} (hj : j < es.length) (h1 : st es j < c) (h2 : c < st es (j + 1)) : rfd ((encs es).take c) = .inr (st es j) := by
  have hd : es.drop j = es[j] :: es.drop (j + 1) := List.drop_eq_getElem_cons hj
  have hs := st_succ (List.getElem?_eq_getElem hj)
  have e1 : (encs es).take c = encs (es.take j) ++ (frame es[j]).take (c - st es j) := by
    conv => lhs; rw [encs_cut es j, hd]
    show ((encs (es.take j)) ++ (frame es[j] ++ encs (es.drop (j + 1)))).take c = _
    rw [List.take_append, List.take_of_length_le (show (encs (es.take j)).length ≤ c from Nat.le_of_lt h1)]
    congr 1
    rw [List.take_append_of_le_length]
    · rfl
    · show c - st es j ≤ _
      omega
  have hlen : ((frame es[j]).take (c - st es j)).length = c - st es j := by rw [List.length_take]; omega
  rw [e1]
  refine rfd_bad (fun e he => h e (List.mem_of_mem_take he)) (fun z => by rw [z] at hlen; simp at hlen; omega) (fz_part (e := es[j]) (r := (frame es[j]).drop (c - st es j)) (h _ (List.getElem_mem hj)) (List.take_append_drop ..) fun z => ?_)
  have := congrArg List.length z
  rw [List.length_drop] at this
  simp at this
  omega
/-- a tail that can't be read, behind whatever -/
def BadT (t : List Int) : Prop := t ≠ [] ∧ t.length ≤ 100 ∧ ∀ pre : List Int, fz (pre ++ t) pre.length = none
theorem bad_much {n : Nat} (h1 : 256 < n) (h2 : n < 16384) (r : List Int) (hr : r.length ≤ 90) : BadT (((n : Int) % 128 + 128) :: ((n : Int) / 128) :: r) := by
  have e : ((n : Int) % 128 + 128) :: ((n : Int) / 128) :: r = steps n ++ r := by
    unfold steps
    rw [if_neg (by omega), show ((n : Int) % 128 + 128) = ((n % 128 + 128 : Nat) : Int) by omega, show ((n : Int) / 128) = ((n / 128 : Nat) : Int) by omega]
    rfl
  refine ⟨List.cons_ne_nil _ _, by simp only [List.length_cons]; omega, fun pre => ?_⟩
  rw [e, fz_at (gs_steps h2 r), if_pos]
  left
  omega
theorem bad_loose {x : Int} (h : 128 ≤ x) (r : List Int) (hr : r.length ≤ 90) : BadT (x :: 0 :: r) := by
  refine ⟨List.cons_ne_nil _ _, by simp only [List.length_cons]; omega, fun pre => fz_bad fun n b => ?_⟩
  unfold gs
  rw [if_neg (by simp)]
  show (if x < 128 then _ else gs (x :: 0 :: r) 0 8 _) ≠ _
  rw [if_neg (by omega)]
  unfold gs
  rw [if_neg (by simp)]
  show (if (0 : Int) < 128 then (if (0 : Nat) < 8 - 7 ∧ (0 : Int) = 0 then GR.loose else _) else _) ≠ _
  rw [if_pos (by decide), if_pos (by decide)]
  simp
theorem bad_out {t : List Int} (h : ∀ i, i < t.length → 128 ≤ t.getD i 0) (h1 : 9 ≤ t.length) (h2 : t.length ≤ 90) : BadT t := by
  refine ⟨fun z => by rw [z] at h1; simp at h1, by omega, fun pre => fz_bad fun n b => ?_⟩
  rw [gs_out t (fun i hi => ⟨by omega, by have := h i (by omega); omega⟩) 9 0 (Nat.le_refl _)]
  simp
theorem cutI_take (xs : List Int) (c : Nat) : cutI xs none (some (c : Int)) = xs.take c := by
  unfold cutI
  rw [HT.sIx_nat, HT.sIx_none, List.drop_zero, Nat.sub_zero]
  by_cases h : c ≤ xs.length
  · rw [Nat.min_eq_left h]
  · rw [Nat.min_eq_right (by omega), List.take_length, List.take_of_length_le (by omega)]
theorem cutV_take (xs : List V) (c : Nat) : cutV xs none (some (c : Int)) = xs.take c := by
  unfold cutV
  rw [HT.sIx_nat, HT.sIx_none, List.drop_zero, Nat.sub_zero]
  by_cases h : c ≤ xs.length
  · rw [Nat.min_eq_left h]
  · rw [Nat.min_eq_right (by omega), List.take_length, List.take_of_length_le (by omega)]
theorem inV_ints (x : Int) (xs : List Int) : inV (.int x) (xs.map V.int) = decide (x ∈ xs) := by
  unfold inV
  rw [List.any_map, Bool.eq_iff_iff, decide_eq_true_iff, List.any_eq_true]
  constructor
  · rintro ⟨y, hy, e⟩
    have : (y == x) = true := e
    rw [← beq_iff_eq.mp this]
    exact hy
  · intro h
    exact ⟨x, h, by show (x == x) = true; simp⟩
theorem flat_ints (xs : List Int) : (xs.map V.int).all flatV = true := by
  rw [List.all_map, List.all_eq_true]
  intro x _
  rfl
theorem EsAt.uncons {H : Hp} {a : Addr} {as : List Addr} {e : List Int} {es : List (List Int)} (h : EsAt H (a :: as) (e :: es)) : H a = some (.lst (e.map V.int)) ∧ EsAt H as es :=
  ⟨h.2 0 a e rfl rfl, by have := h.1; simpa using this, fun i b x h1 h2 => h.2 (i + 1) b x h1 h2⟩
theorem EsAt.dps {K : PySem.W.Frag} {H : Hp} : ∀ {as : List Addr} {es : List (List Int)}, EsAt H as es → DpAll K H (as.map V.ref) (es.map dInts)
  | [], [], _ => .nil
  | [], _ :: _, h => by cases h.1
  | _ :: _, [], h => by cases h.1
  | a :: as, e :: es, h => .cons (dp_ints (lq h.uncons.1)) h.uncons.2.dps
theorem EsAt.dp {K : PySem.W.Frag} {H : Hp} {p : Addr} {as : List Addr} {es : List (List Int)} (h : EsAt H as es) (hp : H p = some (.lst (as.map V.ref))) : Dp K H (.ref p) (.list (es.map dInts)) := .lst (lq hp) h.dps
theorem sh_lists (es : List (List Int)) : Sh 2 (.list (es.map dInts)) := .list fun d hd => by
  obtain ⟨x, _, rfl⟩ := List.mem_map.mp hd
  exact .ints x 0
theorem EsAt.take {H : Hp} {as : List Addr} {es : List (List Int)} (h : EsAt H as es) (j : Nat) : EsAt H (as.take j) (es.take j) := by
  refine ⟨by rw [List.length_take, List.length_take, h.1], fun i a e h1 h2 => ?_⟩
  rw [List.getElem?_take] at h1 h2
  split at h1
  · rename_i c
    rw [if_pos c] at h2
    exact h.2 i a e h1 h2
  · cases h1
--SPLIT
def sp_write_frames (K : PySem.W.Frag) : Sp := fun vs H Q _ => ∃ (a : Addr) (as : List Addr) (es : List (List Int)), vs = [.ref a] ∧ H a = some (.lst (as.map V.ref)) ∧ EsAt H as es ∧ (∀ e ∈ es, e.length ≤ 256) ∧ es.length ≤ 64 ∧
  ∀ p H', Ex H H' → H p = none → H' p = some (.lst ((encs es).map V.int)) → Q (.ref p) H'
def sp__law_entries (K : PySem.W.Frag) : Sp := fun vs H Q _ => ∃ (a : Addr) (ds : List Int), vs = [.ref a] ∧ SqL K H a (ds.map V.int) ∧
  ∀ as es p H', Ex H H' → H' p = some (.lst (as.map V.ref)) → EsAt H' as es → (∀ e ∈ es, e.length ≤ 256) → es.length ≤ 6 → Q (.ref p) H'
def sp__law_frame (K : PySem.W.Frag) : Sp := fun vs H Q _ => ∃ (a : Addr) (e : List Int), vs = [.ref a] ∧ H a = some (.lst (e.map V.int)) ∧ e.length ≤ 256 ∧ ∀ p H', Ex H H' → H p = none → H' p = some (.lst ((frame e).map V.int)) → Q (.ref p) H'
def sp__law_refusal (K : PySem.W.Frag) : Sp := fun vs H Q _ => ∃ (a : Addr) (data : List Int), vs = [.ref a] ∧ H a = some (.lst (data.map V.int)) ∧ data.length ≤ 1000000 ∧ (match rfd data with
  | .inl es => ∀ H', Ex H H' → Q (.int (-1)) H'
  | .inr x => ∀ H', Ex H H' → Q (.int x) H')
def sp__law_caught (K : PySem.W.Frag) : Sp := fun vs H Q _ => ∃ (a : Addr) (data : List Int), vs = [.ref a] ∧ H a = some (.lst (data.map V.int)) ∧ data.length ≤ 1000000 ∧ (match rfd data with
  | .inl es => ∀ H', Ex H H' → Q (.bl false) H'
  | .inr x => ∀ H', Ex H H' → Q (.bl true) H')
def sp_law (K : PySem.W.Frag) : Sp := fun vs H Q _ => ∃ (a : Addr) (ns : List Int), vs = [.ref a] ∧ SqL K H a (ns.map V.int) ∧ ns.length ≤ 63 ∧ ∀ H', Q (.bl true) H'
theorem law_start {K : PySem.W.Frag} {n : Nat} {H : Hp} {a : Addr} {ns : List Int} (hl : ns.length ≤ 63) (hS : SqL K H a (ns.map V.int)) : sp_law K [.ref a] H (fun v _ => v = .bl true) fun _ _ _ => False := ⟨a, ns, rfl, hS, hl, fun _ => rfl⟩
section
variable {K : PySem.W.Frag}
theorem len_write_frames {vs H Q E} (h : sp_write_frames K vs H Q E) : vs.length = 1 := by
  obtain ⟨_, _, _, rfl, _⟩ := h; rfl
theorem len__law_entries {vs H Q E} (h : sp__law_entries K vs H Q E) : vs.length = 1 := by
  obtain ⟨_, _, rfl, _⟩ := h; rfl
theorem len__law_frame {vs H Q E} (h : sp__law_frame K vs H Q E) : vs.length = 1 := by
  obtain ⟨_, _, rfl, _⟩ := h; rfl
theorem len__law_refusal {vs H Q E} (h : sp__law_refusal K vs H Q E) : vs.length = 1 := by
  obtain ⟨_, _, rfl, _⟩ := h; rfl
theorem len__law_caught {vs H Q E} (h : sp__law_caught K vs H Q E) : vs.length = 1 := by
  obtain ⟨_, _, rfl, _⟩ := h; rfl
theorem len_law {vs H Q E} (h : sp_law K vs H Q E) : vs.length = 1 := by
  obtain ⟨_, _, rfl, _⟩ := h; rfl
theorem encs_snoc (es : List (List Int)) (e : List Int) : encs (es ++ [e]) = encs es ++ frame e := by
  unfold encs
  rw [List.flatMap_append]
  simp
theorem encs_bound : ∀ (es : List (List Int)), (∀ e ∈ es, e.length ≤ 256) → (encs es).length ≤ 258 * es.length
  | [], _ => Nat.le_refl _
  | e :: es, h => by
    have ih := encs_bound es fun x hx => h x (List.mem_cons_of_mem _ hx)
    have h1 := h e (List.mem_cons_self ..)
    have h2 := steps_len e.length
    show (frame e ++ encs es).length ≤ _
    unfold frame
    simp only [List.length_append, List.length_cons]
    omega
theorem EsAt.get {H : Hp} {as : List Addr} {es : List (List Int)} (h : EsAt H as es) {i : Nat} {x : V} (hx : (as.map V.ref)[i]? = some x) : ∃ a e, x = .ref a ∧ as[i]? = some a ∧ es[i]? = some e ∧ H a = some (.lst (e.map V.int)) := by
  rw [List.getElem?_map] at hx
  cases e1 : as[i]? with
  | none => rw [e1] at hx; cases hx
  | some a =>
    rw [e1] at hx
    have hi : i < es.length := by rw [← h.1]; exact (List.getElem?_eq_some_iff.mp e1).1
    exact ⟨a, es[i], (Option.some.inj hx).symm, rfl, List.getElem?_eq_getElem hi, h.2 i a _ e1 (List.getElem?_eq_getElem hi)⟩
theorem take_one {α : Type} {l : List α} {i : Nat} {x : α} (h : l[i]? = some x) : l.take (i + 1) = l.take i ++ [x] := by rw [List.take_succ, h]; rfl
def t_write_frames (K : PySem.W.Frag) : TS := (tSeq (tAsg (tLst tNil) (gName 1))
  (tSeq (tFor (iList K (tVar 0)) (gName 2)
  (tAsg (tOp rCat (tOp rCat (tVar 1) (tCall (sp_put_steps K) [] E0 (tCons (tCB (rLenSq K) (tCons (tVar 2) tNil)) tNil))) (tVar 2)) (gName 1)))
  (tRet (tVar 1))))

theorem pure_write_frames (cx : Cxs K) (vs : List V) (H : Hp) (Q : VK) (E : XK) (h : sp_write_frames K vs H Q E) : t_write_frames K { nx := fun _ H' => Q .non H', rt := Q } (start ["entries", "data", "entry"] vs) H := by
  obtain ⟨a, as, es, rfl, ha, he, hl, hn, q⟩ := h
  have hal := he.1
  unfold t_write_frames
  walk_at "rd"
  walk_at "al"
  intro p hp
  walk_at "rd"
  refine x_fl ⟨_, lq (hp_new hp ha)⟩ ?_
  refine w_lst (xs := as.map V.ref) (fun i σ H' => ∃ (p : Addr) (v2 : Option V), σ = [some (.ref a), some (.ref p), v2] ∧ Ex H H' ∧ H p = none ∧ H' p = some (.lst ((encs (es.take i)).map V.int))) ?_ ?_ ?_ ?_
  · exact ⟨p, _, rfl, Ex.new hp, hp, upd_same⟩
  · rintro i σ H' _ ⟨_, _, _, ex, _⟩
    exact lq (ex _ _ ha)
  · rintro i x σ H' hx ⟨p, v2, rfl, ex, hp, hp'⟩
    obtain ⟨b, e, rfl, h1, h2, h3⟩ := he.get hx
    have hb' := ex _ _ h3
    have hee := hl e (List.mem_of_getElem? h2)
    have bd := encs_bound (es.take i) fun x hx => hl x (List.mem_of_mem_take hx)
    have tl : (es.take i).length ≤ 64 := by rw [List.length_take]; omega
    have sl := steps_len e.length
    walk_at "rd"
    refine ⟨e.length, by rw [List.length_map]; rfl, by omega, fun q hq => ?_⟩
    walk_at "rd"
    intro u hu
    walk_at "rd"
    intro w hw
    walk_at "rd"
    have exx : Ex H (upd (upd H' q (.lst ((steps e.length).map V.int))) u (.lst ((encs (es.take i)).map V.int ++ (steps e.length).map V.int))) := (ex.trans (Ex.new hq)).trans (Ex.new hu)
    refine ⟨w, _, rfl, exx.trans (Ex.new hw), Ex.none exx hw, ?_⟩
    rw [upd_same, take_one h2, encs_snoc]
    unfold frame
    rw [List.map_append, List.map_append, List.append_assoc]
  · rintro σ H' ⟨p, v2, rfl, ex, hp, hp'⟩
    rw [List.length_map, hal, List.take_length] at hp'
    walk_at "rd"
    exact q p H' ex hp hp'
def t__law_entries (K : PySem.W.Frag) : TS := (tSeq (tAsg (tLst tNil) (gName 1))
  (tSeq (tFor (iRng1 (tCons (tCall (sp__law_at K) [] E0 (tCons (tVar 0) (tCons (tC (.int 0)) (tCons (tC (.int 7)) tNil)))) tNil)) (gName 2)
  (tSeq (tAsg (tCall (sp__law_at K) [] E0 (tCons (tVar 0) (tCons (tOp rPl (tOp rMu (tC (.int 3)) (tVar 2)) (tC (.int 1))) (tCons (tC (.int 21)) tNil)))) (gName 3))
  (C8.tCut (tIfS (tTest (tOp rEq (tCall (sp__law_at K) [] E0 (tCons (tVar 0) (tCons (tOp rPl (tOp rMu (tC (.int 3)) (tVar 2)) (tC (.int 1))) (tCons (tC (.int 4)) tNil)))) (tC (.int 3)))) (tAsg (tOp rPl (tC (.int 100)) (tCall (sp__law_at K) [] E0 (tCons (tVar 0) (tCons (tOp rPl (tOp rMu (tC (.int 3)) (tVar 2)) (tC (.int 2))) (tCons (tC (.int 157)) tNil))))) (gName 3))
  tNext)
  (tDrop (tBM K "list" rAppend (tVar 1) (tCons (tLc (iRng1 (tCons (tVar 3) tNil)) (gName 4) tYes (tOp rMo (tCB rInt1 (tCons (tOp rPl (tOp rDi (tCall (sp__law_at K) [] E0 (tCons (tVar 0) (tCons (tOp rPl (tOp rMu (tC (.int 3)) (tVar 2)) (tC (.int 3))) (tCons (tC (.int 65536)) tNil)))) (tOp rPl (tC (.int 1)) (tOp rDi (tVar 4) (tC (.int 8))))) (tOp rMu (tC (.int 37)) (tVar 4))) tNil)) (tC (.int 256))) [4]) tNil))))))
  (tRet (tVar 1))))

theorem pure__law_entries (cx : Cxs K) (vs : List V) (H : Hp) (Q : VK) (E : XK) (h : sp__law_entries K vs H Q E) : t__law_entries K { nx := fun _ H' => Q .non H', rt := Q } (start ["_law_draws_here", "_law_entries_here", "_law_k", "_law_size", "_law_i"] vs) H := by
  obtain ⟨a, ds, rfl, hS, q⟩ := h
  unfold t__law_entries
  walk_at "rd"
  walk_at "al"
  intro p hp
  walk_at "ra"
  rename_i n0 hn0 hn1
  refine x_r1 (by omega) ?_
  refine w_rng (fun i σ H' => ∃ (as : List Addr) (es : List (List Int)) (v2 v3 v4 : Option V), σ = [some (.ref a), some (.ref p), v2, v3, v4] ∧ Ex H H' ∧ H' p = some (.lst (as.map V.ref)) ∧ (∀ b ∈ as, b ≠ p) ∧ EsAt H' as es ∧ es.length = i ∧ ∀ e ∈ es, e.length ≤ 256) ?_ ?_ ?_
  · exact ⟨[], [], _, _, _, rfl, Ex.new hp, upd_same, (fun b h => by cases h), ⟨rfl, fun i a e h => by simp at h⟩, rfl, fun e h => by cases h⟩
  · rintro i σ H' hi ⟨as, es, v2, v3, v4, rfl, ex, hp', hne, he, hl, hb⟩
    have hi6 : i < 7 := by omega
    have hal := he.1
    have hS' := Ex.l ex hS
    walk_at "ra"
    rename_i r1 hr1 hr1'
    refine x_cut (fun σ' H2 => H2 = H' ∧ ∃ z : Int, 0 ≤ z ∧ z ≤ 256 ∧ σ' = [some (.ref a), some (.ref p), some (.int (0 + (i : Int))), some (.int z), v4]) ?_ ?_
    · walk_at "ra"
      rename_i r2 hr2 hr2'
      refine ifd (fun hc => ?_) (fun hc => ?_)
      · walk_at "ra"
        exact ⟨rfl, _, by omega, by omega, rfl⟩
      · walk_at "ra"
        exact ⟨rfl, _, by omega, by omega, rfl⟩
    · rintro σ' H2 ⟨rfl, z, hz0, hz1, rfl⟩
      walk_at "ra"
      refine x_r1 (by omega) ?_
      refine w_lcI (fun _ _ => True) (by omega) (fun k H3 R ex3 hk hR => ?_) (fun D ns hD hlen _ => ?_)
      · have hS3 := Ex.l ex3 hS'
        walk_at "ra"
        exact hR _ trivial
      · walk_at "ra"
        have hpD : D ≠ p := fun z => by rw [z, hp'] at hD; cases hD
        refine ⟨as ++ [D], es ++ [ns], _, _, _, rfl, Ex.mut (ex.trans (Ex.new hD)) hp, by rw [upd_same, List.map_append]; rfl, fun b hb => ?_, (he.mono fun b o hb h => ?_).snoc ?_, by rw [List.length_append, hl]; rfl, fun e h => ?_⟩
        · rcases List.mem_append.mp hb with hb | hb
          · exact hne b hb
          · rw [List.mem_singleton.mp hb]
            exact hpD
        · rw [upd_ne (hne b hb)]
          exact hp_new hD h
        · rw [upd_ne hpD, upd_same]
        · rcases List.mem_append.mp h with h | h
          · exact hb e h
          · rw [List.mem_singleton.mp h]
            omega
  · rintro σ H' ⟨as, es, v2, v3, v4, rfl, ex, hp', hne, he, hl, hb⟩
    walk_at "rd"
    exact q as es p H' ex hp' he hb (by omega)
def t__law_frame (K : PySem.W.Frag) : TS := (tSeq (tIfS (tTest (tOp rLt (tCB (rLenSq K) (tCons (tVar 0) tNil)) (tC (.int 128)))) (tRet (tOp rCat (tLst (tCons (tCB (rLenSq K) (tCons (tVar 0) tNil)) tNil)) (tVar 0)))
  tNext)
  (tRet (tOp rCat (tLst (tCons (tOp rPl (tOp rMo (tCB rInt1 (tCons (tCB (rLenSq K) (tCons (tVar 0) tNil)) tNil)) (tC (.int 128))) (tC (.int 128))) (tCons (tOp rDi (tCB (rLenSq K) (tCons (tVar 0) tNil)) (tC (.int 128))) tNil))) (tVar 0))))

theorem pure__law_frame (cx : Cxs K) (vs : List V) (H : Hp) (Q : VK) (E : XK) (h : sp__law_frame K vs H Q E) : t__law_frame K { nx := fun _ H' => Q .non H', rt := Q } (start ["_law_entry"] vs) H := by
  obtain ⟨a, e, rfl, ha, hl, q⟩ := h
  unfold t__law_frame
  walk_at "rd"
  rw [List.length_map]
  refine ifd (fun hc => ?_) (fun hc => ?_)
  · walk_at "rd"
    walk_at "al"
    intro u hu
    walk_at "rd"
    intro w hw
    · have exx : Ex H (upd H u (.lst [V.int (e.map V.int).length])) := Ex.new hu
      refine q w _ (exx.trans (Ex.new hw)) (Ex.none exx hw) ?_
      rw [upd_same]
      unfold frame steps
      rw [if_pos (by omega), List.length_map]
      rfl
  · walk_at "rd"
    walk_at "al"
    intro u hu
    walk_at "rd"
    intro w hw
    · have exx := Ex.new (o := .lst [V.int ((((e.map V.int).length : Nat) : Int) % 128 + 128), V.int ((((e.map V.int).length : Nat) : Int) / 128)]) hu
      refine q w _ (exx.trans (Ex.new hw)) (Ex.none exx hw) ?_
      rw [upd_same]
      unfold frame steps
      rw [if_neg (by omega), List.length_map]
      show some (HO.lst (V.int ((e.length : Int) % 128 + 128) :: V.int ((e.length : Int) / 128) :: e.map V.int)) = some (HO.lst (V.int ((e.length % 128 + 128 : Nat) : Int) :: V.int ((e.length / 128 : Nat) : Int) :: e.map V.int))
      rw [show ((e.length : Int) % 128 + 128) = ((e.length % 128 + 128 : Nat) : Int) by omega, show ((e.length : Int) / 128) = ((e.length / 128 : Nat) : Int) by omega]
def t__law_refusal (K : PySem.W.Frag) : TS := (tSeq (tTryAs K (.ref (He.ga K "WrongFrames")) 1 (fun W1 => (tDrop (tCallS (sp_read_frames K) (WE W1) (tCons (tVar 0) tNil)))) (fun a1 cls1 d1 => (tRet (tXfV K 1 a1 cls1 d1 "at"))) W0)
  (tRet (tUn rNeg (tC (.int 1)))))

theorem pure__law_refusal (cx : Cxs K) (vs : List V) (H : Hp) (Q : VK) (E : XK) (h : sp__law_refusal K vs H Q E) : t__law_refusal K { nx := fun _ H' => Q .non H', rt := Q } (start ["_law_data", "e"] vs) H := by
  obtain ⟨a, data, rfl, ha, hl, q⟩ := h
  obtain ⟨f, T⟩ := cx.e_WrongFrames
  unfold t__law_refusal
  walk_at "rd"
  refine ⟨a, data, rfl, ha, hl, ?_⟩
  cases e : rfd data with
  | inl es =>
    rw [e] at q
    intro as p H' ex _ _ _ _ _
    walk_at "rd"
    exact q H' ex
  | inr x =>
    rw [e] at q
    intro H' ex d hd
    refine ⟨true, cx.x_WrongFrames_WrongFrames, fun _ a0 ha0 => ?_, fun z => by cases z⟩
    walk_at "rd"
    exact ⟨rfl, _, rfl, T.xf, T.at_, d, _, _, rfl, upd_same, rfl, q _ (ex.trans (Ex.new hd))⟩
def t__law_caught (K : PySem.W.Frag) : TS := (tSeq (tTryAs K (.ref (He.ga K "BellowsError")) 1 (fun W1 => (tDrop (tCallS (sp_read_frames K) (WE W1) (tCons (tVar 0) tNil)))) (fun a1 cls1 d1 => (tRet (tAndV (tCB (rIsE2 K a1 cls1 d1) (tCons (tVar 1) (tCons (tC (.ref (He.ga K "WrongFrames"))) tNil))) (tCB (rIsE2 K a1 cls1 d1) (tCons (tVar 1) (tCons (tC (.ty "ValueError")) tNil)))))) W0)
  (tRet (tC (.bl false))))

theorem pure__law_caught (cx : Cxs K) (vs : List V) (H : Hp) (Q : VK) (E : XK) (h : sp__law_caught K vs H Q E) : t__law_caught K { nx := fun _ H' => Q .non H', rt := Q } (start ["_law_data", "e"] vs) H := by
  obtain ⟨a, data, rfl, ha, hl, q⟩ := h
  obtain ⟨f, T⟩ := cx.e_WrongFrames
  unfold t__law_caught
  walk_at "rd"
  refine ⟨a, data, rfl, ha, hl, ?_⟩
  cases e : rfd data with
  | inl es =>
    rw [e] at q
    intro as p H' ex _ _ _ _ _
    walk_at "rd"
    exact q H' ex
  | inr x =>
    rw [e] at q
    intro H' ex d hd
    refine ⟨true, cx.x_WrongFrames_BellowsError, fun _ a0 ha0 => ?_, fun z => by cases z⟩
    walk_at "rdv"
    refine ⟨⟨_, upd_same⟩, _, _, _, true, rfl, T.ic, rfl, fun u r => r, cx.kit0, ?_⟩
    walk_at "rdv"
    refine ⟨⟨_, upd_same⟩, _, _, _, true, rfl, T.ic, rfl, fun u r => r, cx.kit1, ?_⟩
    exact q _ (ex.trans (Ex.new hd))
theorem x_inI {H : Hp} {Q : VK} {x : Int} {p : Addr} {xs : List Int} (h : SqL K H p (xs.map V.int)) (q : Q (.bl (decide (x ∈ xs))) H) : rIn K false (.int x) (.ref p) H Q :=
  ⟨p, _, rfl, .inl h, rfl, flat_ints xs, by rw [inV_ints]; exact q⟩
def t_law (K : PySem.W.Frag) : TS := (tSeq (tAsg (tCall (sp__law_draws K) [] E0 (tCons (tVar 0) tNil)) (gName 1))
  (tSeq (tAsg (tCall (sp__law_entries K) [] E0 (tCons (tVar 1) tNil)) (gName 2))
  (tSeq (tAsg (tLc (iList K (tVar 2)) (gName 3) tYes (tCB (rListOf K) (tCons (tVar 3) tNil)) [3]) (gName 4))
  (tSeq (tAsg (tLst tNil) (gName 5))
  (tSeq (tAsg (tLst tNil) (gName 6))
  (tSeq (tFor (iList K (tVar 4)) (gName 3)
  (tSeq (tDrop (tBM K "list" rAppend (tVar 6) (tCons (tCB (rLenSq K) (tCons (tVar 5) tNil)) tNil)))
  (tAsg (tOp rCat (tVar 5) (tCall (sp__law_frame K) [] E0 (tCons (tVar 3) tNil))) (gName 5))))
  (tSeq (tAsg (tCall (sp_write_frames K) [] E0 (tCons (tVar 2) tNil)) (gName 7))
  (tSeq (tIfS (tOr (tTest (tOp (rNeD K) (tVar 7) (tVar 5))) (tOr (tNot (tB (tCB (rIsi K) (tCons (tVar 7) (tCons (tC (.ty "list")) tNil))))) (tTest (tOp (rNeD K) (tVar 2) (tVar 4))))) (tRet (tC (.bl false)))
  tNext)
  (tSeq (tAsg (tCallS (sp_read_frames K) (WE W0) (tCons (tVar 7) tNil)) (gName 8))
  (tSeq (tIfS (tOr (tTest (tOp (rNeD K) (tVar 8) (tVar 4))) (tTest (tOp (rNeD K) (tVar 7) (tVar 5)))) (tRet (tC (.bl false)))
  tNext)
  (tSeq (tFor (iList K (tVar 8)) (gName 3)
  (tDrop (tBM K "list" rAppend (tVar 3) (tCons (tC (.int 7)) tNil))))
  (tSeq (tIfS (tTest (tOp (rNeD K) (tCallS (sp_read_frames K) (WE W0) (tCons (tVar 5) tNil)) (tVar 4))) (tRet (tC (.bl false)))
  tNext)
  (tSeq (tAsg (tCall (sp__law_at K) [] E0 (tCons (tVar 1) (tCons (tC (.int 20)) (tCons (tOp rPl (tCB (rLenSq K) (tCons (tVar 5) tNil)) (tC (.int 1))) tNil)))) (gName 9))
  (C8.tCut (tIfS (tOr (tTest (tOp (rIn K false) (tVar 9) (tVar 6))) (tTest (tOp rEq (tVar 9) (tCB (rLenSq K) (tCons (tVar 5) tNil))))) (tIfS (tTest (tOp (rNeD K) (tCallS (sp_read_frames K) (WE W0) (tCons (tSl (rSlL K) (tVar 5) tNoPart (tPart (tVar 9))) tNil)) (tSl (rSlL K) (tVar 4) tNoPart (tPart (tCB (rLenSq K) (tCons (tLc (iList K (tVar 6)) (gName 13) (tTest (tOp rLt (tVar 13) (tVar 9))) (tVar 13) [13]) tNil)))))) (tRet (tC (.bl false)))
  tNext)
  (tIfS (tTest (tOp rNe (tCall (sp__law_refusal K) [] E0 (tCons (tSl (rSlL K) (tVar 5) tNoPart (tPart (tVar 9))) tNil)) (tCB (rMax K) (tCons (tLc (iList K (tVar 6)) (gName 13) (tTest (tOp rLt (tVar 13) (tVar 9))) (tVar 13) [13]) tNil)))) (tRet (tC (.bl false)))
  tNext))
  (tSeq (tAsg (tOp rPl (tC (.int 257)) (tCall (sp__law_at K) [] E0 (tCons (tVar 1) (tCons (tC (.int 21)) (tCons (tC (.int 16000)) tNil))))) (gName 10))
  (tSeq (tAsg (tLst (tCons (tOp rCat (tLst (tCons (tOp rPl (tOp rMo (tCB rInt1 (tCons (tVar 10) tNil)) (tC (.int 128))) (tC (.int 128))) (tCons (tOp rDi (tVar 10) (tC (.int 128))) tNil))) (tLc (iRng1 (tCons (tC (.int 30)) tNil)) (gName 13) tYes (tC (.int 0)) [13])) (tCons (tLst (tCons (tOp rPl (tC (.int 128)) (tCall (sp__law_at K) [] E0 (tCons (tVar 1) (tCons (tC (.int 22)) (tCons (tC (.int 90)) tNil))))) (tCons (tC (.int 0)) (tCons (tC (.int 1)) (tCons (tC (.int 1)) tNil))))) tNil))) (gName 11))
  (tSeq (tDrop (tBM K "list" rAppend (tVar 11) (tCons (tLc (iRng1 (tCons (tOp rPl (tC (.int 9)) (tCall (sp__law_at K) [] E0 (tCons (tVar 1) (tCons (tC (.int 23)) (tCons (tC (.int 3)) tNil))))) tNil)) (gName 13) tYes (tOp rPl (tC (.int 129)) (tCall (sp__law_at K) [] E0 (tCons (tVar 1) (tCons (tC (.int 22)) (tCons (tC (.int 127)) tNil))))) [13]) tNil)))
  (tSeq (tFor (iList K (tVar 11)) (gName 12)
  (tIfS (tOr (tTest (tOp rNe (tCall (sp__law_refusal K) [] E0 (tCons (tOp rCat (tVar 5) (tVar 12)) tNil)) (tCB (rLenSq K) (tCons (tVar 5) tNil)))) (tNot (tB (tCall (sp__law_caught K) [] E0 (tCons (tOp rCat (tVar 5) (tVar 12)) tNil))))) (tRet (tC (.bl false)))
  tNext))
  (tRet (tC (.bl true)))))))))))))))))))))

theorem pure_law (cx : Cxs K) (vs : List V) (H : Hp) (Q : VK) (E : XK) (h : sp_law K vs H Q E) : t_law K { nx := fun _ H' => Q .non H', rt := Q } (start ["_law_script", "_law_draws_here", "_law_entries_here", "_law_entry", "_law_kept", "_law_data", "_law_starts", "_law_told", "_law_back", "_law_cut", "_law_much", "_law_bad", "_law_tail", "_law_k"] vs) H := by
  obtain ⟨a, ns, rfl, hS, hl, q⟩ := h
  unfold t_law
  walk_at "rd"
  refine ⟨a, ns, rfl, hS, hl, fun ds da hds hda => ?_⟩
  walk_at "rd"
  refine ⟨da, ds, rfl, lq upd_same, fun as es p H1 ex1 hp1 he1 hb hlen => ?_⟩
  have hda1 : H1 da = some (.lst (ds.map V.int)) := ex1 _ _ upd_same
  have hal := he1.1
  clear hda ex1 hS
  walk_at "rd"
  refine x_fl ⟨_, lq hp1⟩ ?_
  refine w_lcL (xs := as.map V.ref) (fun D i acc H' => Ex H1 H' ∧ ∃ ks : List Addr, acc = ks.map V.ref ∧ H' D = some (.lst acc) ∧ EsAt H' ks (es.take i) ∧ ∀ b ∈ ks, b ≠ D) (fun D hD => ⟨Ex.new hD, [], rfl, upd_same, ⟨rfl, fun i a e h => by simp at h⟩, fun b h => by cases h⟩) (fun D i acc H' hD h => lq (h.1 _ _ hp1)) (fun D i acc x H' hD hx ⟨ex, ks, e1, e2, e3, e4⟩ => ?_) (fun D acc H2 hD ⟨ex12, ks, e1, hD2, hks, hkD⟩ => ?_)
  · obtain ⟨b, e, rfl, h1, h2, h3⟩ := he1.get hx
    have hb' := ex _ _ h3
    have hil : i < es.length := (List.getElem?_eq_some_iff.mp h2).1
    have hkl : ks.length = i := by rw [e3.1, List.length_take]; omega
    walk_at "rd"
    intro l hl
    have hlD : l ≠ D := fun z => by rw [z, e2] at hl; cases hl
    refine ⟨acc, by rw [upd_ne (Ne.symm hlD)]; exact e2, by rw [e1, List.length_map]; refine sz_lt ?_; omega, acc ++ [.ref l], Ex.mut (ex.trans (Ex.new hl)) hD, ks ++ [l], by rw [e1, List.map_append]; rfl, upd_same, ?_, fun b hb => ?_⟩
    · rw [take_one h2]
      refine (e3.mono fun b o hb h => ?_).snoc ?_
      · rw [upd_ne (e4 b hb)]
        exact hp_new hl h
      · rw [upd_ne hlD, upd_same]
    · rcases List.mem_append.mp hb with hb | hb
      · exact e4 b hb
      · rw [List.mem_singleton.mp hb]
        exact hlD
  · rw [List.length_map, hal, List.take_length] at hks
    subst e1
    have hkl := hks.1
    have hp2 := ex12 _ _ hp1
    have hda2 := ex12 _ _ hda1
    have he2 : EsAt H2 as es := he1.mono fun b o _ h => ex12 _ _ h
    clear ex12 he1 hp1 hda1 hD
    walk_at "rd"
    walk_at "al"
    intro p5 hp5
    walk_at "rd"
    walk_at "al"
    intro p6 hp6
    walk_at "rd"
    have hn6 : H2 p6 = none ∧ p6 ≠ p5 := by
      rw [upd_eq_none] at hp6
      exact ⟨hp6.2, hp6.1⟩
    refine x_fl ⟨_, lq (hp_new hp6 (hp_new hp5 hD2))⟩ ?_
    refine w_lst (xs := ks.map V.ref) (fun i σ H' => ∃ (p5 : Addr) (v3 v7 v8 v9 v10 v11 v12 v13 : Option V), σ = [some (.ref a), some (.ref da), some (.ref p), v3, some (.ref D), some (.ref p5), some (.ref p6), v7, v8, v9, v10, v11, v12, v13] ∧ Ex H2 H' ∧ p6 ≠ p5 ∧
      H' p6 = some (.lst ((sts es i).map V.int)) ∧ H' p5 = some (.lst ((encs (es.take i)).map V.int))) ?_ ?_ ?_ ?_
    · exact ⟨p5, _, _, _, _, _, _, _, _, rfl, (Ex.new hp5).trans (Ex.new hp6), hn6.2, upd_same, hp_new hp6 upd_same⟩
    · rintro i σ H' _ ⟨_, _, _, _, _, _, _, _, _, _, ex, _⟩
      exact lq (ex _ _ hD2)
    · rintro i x σ H' hx ⟨p5, v3, v7, v8, v9, v10, v11, v12, v13, rfl, ex, hne, h6, h5⟩
      obtain ⟨b, e, rfl, h1, h2, h3⟩ := hks.get hx
      have hil : i < es.length := (List.getElem?_eq_some_iff.mp h2).1
      have hb' := ex _ _ h3
      have hne6 : b ≠ p6 := fun z => by rw [z, hn6.1] at h3; cases h3
      have hee := hb e (List.mem_of_getElem? h2)
      have bd := encs_bound (es.take i) fun x hx => hb x (List.mem_of_mem_take hx)
      have tl : (es.take i).length ≤ 6 := by rw [List.length_take]; omega
      have sl : (sts es i).length = i := by unfold sts; rw [List.length_map, List.length_range]
      walk_at "rd"
      rw [List.length_map]
      refine ⟨b, e, rfl, by rw [upd_ne hne6]; exact hb', hee, fun u H3 ex3 hu hu3 => ?_⟩
      have h53 := ex3 p5 _ (by rw [upd_ne (Ne.symm hne)]; exact h5)
      have h63 := ex3 p6 _ upd_same
      have fl : (frame e).length ≤ 258 := by
        have := steps_len e.length
        unfold frame
        rw [List.length_append]
        omega
      walk_at "rd"
      intro w hw
      walk_at "rd"
      have exx : Ex H2 H3 := fun b o hb => ex3 _ _ (by
        rw [upd_ne (fun z => by rw [z, hn6.1] at hb; cases hb)]
        exact ex _ _ hb)
      refine ⟨w, _, _, _, _, _, _, _, _, rfl, exx.trans (Ex.new hw), fun z => (by rw [← z, h63] at hw; cases hw), ?_, ?_⟩
      · rw [sts_succ, List.map_append]
        exact hp_new hw h63
      · rw [upd_same, take_one h2, encs_snoc, List.map_append]
    · rintro σ H3 ⟨p5, v3, v7, v8, v9, v10, v11, v12, v13, rfl, ex23, hne, h63, h53⟩
      rw [List.length_map, hkl] at h63 h53
      rw [List.take_length] at h53
      have hp3 := ex23 _ _ hp2
      have hda3 := ex23 _ _ hda2
      have hD3 := ex23 _ _ hD2
      have he3 : EsAt H3 as es := he2.mono fun b o _ h => ex23 _ _ h
      have hk3 : EsAt H3 ks es := hks.mono fun b o _ h => ex23 _ _ h
      have bd := encs_bound es hb
      clear ex23 hp2 hda2 hD2 he2 hks hn6 hp5 hp6 hkD
      walk_at "rd"
      refine ⟨p, as, es, rfl, hp3, he3, hb, by omega, fun p7 H4 ex34 hp7 h74 => ?_⟩
      have hp4 := ex34 _ _ hp3
      have hda4 := ex34 _ _ hda3
      have hD4 := ex34 _ _ hD3
      have h54 := ex34 _ _ h53
      have h64 := ex34 _ _ h63
      have he4 : EsAt H4 as es := he3.mono fun b o _ h => ex34 _ _ h
      have hk4 : EsAt H4 ks es := hk3.mono fun b o _ h => ex34 _ _ h
      clear ex34 hp3 hda3 hD3 he3 hk3 h53 h63 hp7
      walk_at "rdv"
      refine x_neD (n := 1) (d := dInts (encs es)) (dp_ints (lq h74)) (dp_ints (lq h54)) (Sh.ints _ 0) (by decide) ?_
      walk_at "rdv"
      refine x_isi (b := true) (.base (.lst h74)) (kit_ty (by decide +kernel)) ?_
      walk_at "rdv"
      refine x_neD (n := 2) (d := .list (es.map dInts)) (he4.dp hp4) (hk4.dp hD4) (sh_lists es) (by decide) ?_
      walk_at "rdv"
      refine ⟨p7, encs es, rfl, h74, by omega, ?_⟩
      rw [rfd_encs hb]
      intro bs p8 H5 ex45 hbs hp8 hpb h85 hes5
      have hda5 := ex45 _ _ hda4
      have hD5 := ex45 _ _ hD4
      have h55 := ex45 _ _ h54
      have h65 := ex45 _ _ h64
      have h75 := ex45 _ _ h74
      have hk5 : EsAt H5 ks es := hk4.mono fun b o _ h => ex45 _ _ h
      walk_at "rdv"
      refine x_neD (n := 2) (d := .list (es.map dInts)) (hes5.dp h85) (hk5.dp hD5) (sh_lists es) (by decide) ?_
      walk_at "rdv"
      refine x_neD (n := 1) (d := dInts (encs es)) (dp_ints (lq h75)) (dp_ints (lq h55)) (Sh.ints _ 0) (by decide) ?_
      walk_at "rdv"
      refine x_fl ⟨_, lq h85⟩ ?_
      refine w_lst (xs := bs.map V.ref) (fun i σ H' => ∃ v3, σ = [some (.ref a), some (.ref da), some (.ref p), v3, some (.ref D), some (.ref p5), some (.ref p6), some (.ref p7), some (.ref p8), v9, v10, v11, v12, v13] ∧ Ex H4 H' ∧ H' p8 = some (.lst (bs.map V.ref)) ∧
        ∀ b ∈ bs, ∃ xs, H' b = some (.lst xs) ∧ xs.length ≤ 1000 + i) ?_ ?_ ?_ ?_
      · refine ⟨_, rfl, ex45, h85, fun b hb2 => ?_⟩
        obtain ⟨i, hi, e⟩ := List.mem_iff_getElem.mp hb2
        have e2 : bs[i]? = some b := by rw [List.getElem?_eq_getElem hi, e]
        have hi2 : i < es.length := by rw [← hes5.1]; exact hi
        refine ⟨_, hes5.2 i b _ e2 (List.getElem?_eq_getElem hi2), ?_⟩
        rw [List.length_map]
        have := hb _ (List.getElem_mem hi2)
        omega
      · rintro i σ H' _ ⟨_, _, _, h, _⟩
        exact lq h
      · rintro i x σ H' hx ⟨v3, rfl, ex, h8, hbb⟩
        rw [List.getElem?_map] at hx
        cases e1 : bs[i]? with
        | none => rw [e1] at hx; cases hx
        | some b1 =>
          rw [e1] at hx
          cases hx
          have hm := List.mem_of_getElem? e1
          have hil : i < bs.length := (List.getElem?_eq_some_iff.mp e1).1
          have hb5 := hes5.1
          obtain ⟨xs, hx1, hx2⟩ := hbb b1 hm
          walk_at "rd"
          refine ⟨_, rfl, Ex.mut ex (hbs b1 hm), ?_, fun b2 hb2 => ?_⟩
          · rw [upd_ne (fun z => hpb (by rw [z]; exact hm))]
            exact h8
          · obtain ⟨ys, hy1, hy2⟩ := hbb b2 hb2
            by_cases e : b2 = b1
            · refine ⟨_, by rw [e]; exact upd_same, ?_⟩
              rw [List.length_append]
              show xs.length + 1 ≤ _
              omega
            · exact ⟨ys, by rw [upd_ne e]; exact hy1, by omega⟩
      · rintro σ H6 ⟨v3, rfl, ex46, _, _⟩
        have hda6 := ex46 _ _ hda4
        have hD6 := ex46 _ _ hD4
        have h56 := ex46 _ _ h54
        have h66 := ex46 _ _ h64
        have hk6 : EsAt H6 ks es := hk4.mono fun b o _ h => ex46 _ _ h
        clear ex46 ex45 hbs hp8 hpb h85 hes5 hda5 hD5 h55 h65 h75 hk5 h74 hp4 hda4 hD4 h54 h64 he4 hk4
        walk_at "rdv"
        refine ⟨p5, encs es, rfl, h56, by omega, ?_⟩
        rw [rfd_encs hb]
        intro bs2 p9 H7 ex67 _ _ _ h97 hes7
        have hda7 := ex67 _ _ hda6
        have hD7 := ex67 _ _ hD6
        have h57 := ex67 _ _ h56
        have h67 := ex67 _ _ h66
        have hk7 : EsAt H7 ks es := hk6.mono fun b o _ h => ex67 _ _ h
        walk_at "rdv"
        refine x_neD (n := 2) (d := .list (es.map dInts)) (hes7.dp h97) (hk7.dp hD7) (sh_lists es) (by decide) ?_
        clear ex67 h97 hes7 hda6 hD6 h56 h66 hk6
        walk_at "ra"
        rename_i r hr0 hr1
        rw [List.length_map] at hr1
        obtain ⟨c, rfl⟩ := Int.eq_ofNat_of_zero_le hr0
        refine x_cut (fun σ' H' => σ' = [some (.ref a), some (.ref da), some (.ref p), v3, some (.ref D), some (.ref p5), some (.ref p6), some (.ref p7), some (.ref p8), some (.int c), v10, v11, v12, v13] ∧ Ex H7 H') ?_ ?_
        · rcases where_cut es c (by omega) with ⟨j, hj, rfl⟩ | ⟨j, hj, h1, h2⟩
          · refine x_ifS (x_tev true (fun R hR => ?_) ?_)
            · walk_at "rdv"
              refine x_inI (lq h67) ?_
              walk_at "rdv"
              refine ifd (fun hc => hR) (fun hc => ?_)
              have hj2 : j = es.length := by
                by_cases c2 : j < es.length
                · exact absurd (mem_sts.mpr ⟨j, c2, rfl⟩) hc
                · omega
              walk_at "rdv"
              rw [List.length_map, decide_eq_true (by rw [hj2, st_all])]
              exact hR
            · walk_at "rdv"
              intro u hu
              walk_at "rdv"
              have hl2 : (encs (es.take j)).length ≤ (encs es).length := by
                rw [← take_st, List.length_take]
                omega
              refine ⟨u, encs (es.take j), rfl, by rw [upd_same, cutV_map, cutI_take, take_st], by omega, ?_⟩
              rw [rfd_encs (fun e he => hb e (List.mem_of_mem_take he))]
              intro bs3 p10 H8 ex78 _ _ _ h108 hes8
              have ex := (Ex.new hu).trans ex78
              have h68 := ex _ _ h67
              have hD8 := ex _ _ hD7
              walk_at "rdv"
              refine x_fl ⟨_, lq h68⟩ ?_
              refine w_lcF (fun x => decide (x < (st es j : Int))) (by simp) (lq h68) (by unfold sts; rw [List.length_map, List.length_range]; omega) (fun x H' R ex hR => ?_) (fun D2 hD2 => ?_)
              · walk_at "rdv"
                exact hR
              · rw [sts_filter (m := j) (fun i hi => by have := st_lt (es := es) hi hj; omega) es.length hj (fun i h1 h2 => by have := st_le (es := es) h1 (by omega); omega)]
                have hk8 : EsAt H8 ks es := hk7.mono fun b o _ h => ex _ _ h
                walk_at "rdv"
                intro w hw
                have sl : ((sts es j).map V.int).length = j := by unfold sts; rw [List.length_map, List.length_map, List.length_range]
                rw [sl, cutV_take, ← List.map_take]
                refine x_neD (n := 2) (d := .list ((es.take j).map dInts)) ((hes8.mono fun b o _ h => hp_new hw (hp_new hD2 h)).dp (hp_new hw (hp_new hD2 h108))) (((hk8.take j).mono fun b o _ h => hp_new hw (hp_new hD2 h)).dp ?_) (sh_lists _) (by decide) ?_
                · rw [sl, cutV_take, ← List.map_take] at *
                  exact upd_same
                · walk_at "rdv"
                  exact ⟨rfl, (ex.trans (Ex.new hD2)).trans (Ex.new hw)⟩
          · refine x_ifS (x_tev false (fun R hR => ?_) ?_)
            · walk_at "rdv"
              refine x_inI (lq h67) ?_
              walk_at "rdv"
              refine ifd (fun hc => ?_) (fun hc => ?_)
              · obtain ⟨i, hi, e⟩ := mem_sts.mp hc
                by_cases c2 : i ≤ j
                · have := st_le (es := es) c2 (by omega)
                  omega
                · have := st_le (es := es) (i := j + 1) (j := i) (by omega) (by omega)
                  omega
              · have h3 := st_le (es := es) (i := j + 1) (j := es.length) (by omega) (Nat.le_refl _)
                rw [st_all] at h3
                walk_at "rdv"
                rw [List.length_map, decide_eq_false (fun z => by have z2 := V.int.inj z; omega)]
                exact hR
            · walk_at "rdv"
              intro u hu
              walk_at "rdv"
              refine ⟨u, (encs es).take c, rfl, by rw [upd_same, cutV_map, cutI_take], by rw [List.length_take]; omega, ?_⟩
              rw [rfd_cut hb hj h1 h2]
              intro H8 ex78
              have ex := (Ex.new hu).trans ex78
              have h68 := ex _ _ h67
              walk_at "rdv"
              refine x_fl ⟨_, lq h68⟩ ?_
              refine w_lcF (fun x => decide (x < (c : Int))) (by simp) (lq h68) (by unfold sts; rw [List.length_map, List.length_range]; omega) (fun x H' R ex hR => ?_) (fun D2 hD2 => ?_)
              · walk_at "rdv"
                exact hR
              · rw [sts_filter (m := j + 1) (fun i hi => by have := st_le (es := es) (i := i) (j := j) (by omega) (by omega); omega) es.length (by omega) (fun i h3 h4 => by have := st_le (es := es) h3 (by omega); omega)]
                walk_at "rdv"
                refine ⟨D2, sts es (j + 1), rfl, lq upd_same, by unfold sts; rw [List.length_map, List.length_range]; omega, fun m hm hmax => ?_⟩
                have e : (st es j : Int) = m := by
                  obtain ⟨i, hi, rfl⟩ := mem_sts.mp hm
                  have h3 := hmax (st es j) (mem_sts.mpr ⟨j, by omega, rfl⟩)
                  have h4 := st_le (es := es) (i := i) (j := j) (by omega) (by omega)
                  omega
                rw [← e]
                walk_at "rdv"
                rw [decide_eq_true rfl]
                walk_at "rdv"
                exact ⟨rfl, ex.trans (Ex.new hD2)⟩
        · rintro σ' H8 ⟨rfl, ex78⟩
          have hda8 := ex78 _ _ hda7
          have h58 := ex78 _ _ h57
          clear hda7 h57 h67 hD7 hk7 ex78
          walk_at "ra"
          rename_i r2 hr2 hr2'
          walk_at "al"
          intro b1 hb1
          walk_at "ra"
          refine x_r1 (by omega) ?_
          refine w_lcI (fun _ z => z = 0) (by omega) (fun i H' R ex hi hR => ?_) (fun D1 zs hD1 hzl hz => ?_)
          · walk_at "rd"
            exact hR 0 rfl
          · have hzl30 : zs.length = 30 := hzl
            walk_at "ra"
            intro b2 hb2
            walk_at "ra"
            rename_i r3 hr3 hr3'
            walk_at "al"
            intro b3 hb3
            walk_at "ra"
            walk_at "al"
            intro b4 hb4
            walk_at "ra"
            rename_i r4 hr4 hr4'
            refine x_r1 (by omega) ?_
            refine w_lcI (fun _ z => 129 ≤ z) (by omega) (fun i H' R ex hi hR => ?_) (fun D3 ts hD3 htl ht => ?_)
            · have hda9 := ex da _ (by walk_at "hp")
              walk_at "ra"
              rename_i r5 hr5 hr5'
              exact hR _ (by omega)
            · walk_at "ra"
              have n2 : b2 ≠ b3 ∧ b2 ≠ b4 ∧ b2 ≠ D3 ∧ b3 ≠ b4 ∧ b3 ≠ D3 ∧ b4 ≠ D3 ∧ p5 ≠ b4 := by
                simp only [upd_eq_none] at hb3 hb4 hD3
                exact ⟨Ne.symm hb3.1, Ne.symm hb4.2.1, Ne.symm hD3.2.2.1, Ne.symm hb4.1, Ne.symm hD3.2.1, Ne.symm hD3.1, fun z => by rw [← z, h58] at hb4; cases hb4.2.2.2.2⟩
              obtain ⟨n1, n2, n3, n4, n5, n6, n7⟩ := n2
              obtain ⟨m, hm⟩ : ∃ m : Nat, 257 + r2 = m := Int.eq_ofNat_of_zero_le (by omega)
              generalize hHB : upd (upd (upd (upd (upd (upd (upd H8 b1 (.lst [.int ((257 + r2) % 128 + 128), .int ((257 + r2) / 128)])) D1 (.lst (zs.map V.int))) b2 (.lst ([V.int ((257 + r2) % 128 + 128), V.int ((257 + r2) / 128)] ++ zs.map V.int))) b3 (.lst [V.int (128 + r3), V.int 0, V.int 1, V.int 1])) b4 (.lst [V.ref b2, V.ref b3])) D3 (.lst (ts.map V.int))) b4 (.lst ([V.ref b2, V.ref b3] ++ [V.ref D3])) = HB
              have g5 : HB p5 = some (.lst ((encs es).map V.int)) := by
                rw [← hHB, upd_ne n7]
                exact hp_new hD3 (hp_new hb4 (hp_new hb3 (hp_new hb2 (hp_new hD1 (hp_new hb1 h58)))))
              have g4 : HB b4 = some (.lst (([b2, b3, D3] : List Addr).map V.ref)) := by
                rw [← hHB, upd_same]
                rfl
              have ge : EsAt HB [b2, b3, D3] [((m : Int) % 128 + 128) :: ((m : Int) / 128) :: zs, (128 + r3) :: 0 :: [1, 1], ts] := by
                refine ⟨rfl, fun i b t h1 h2 => ?_⟩
                match i, h1, h2 with
                | 0, h1, h2 =>
                  cases h1
                  cases h2
                  rw [← hHB, upd_ne n2, upd_ne n3, upd_ne n2, upd_ne n1, upd_same, hm]
                  rfl
                | 1, h1, h2 =>
                  cases h1
                  cases h2
                  rw [← hHB, upd_ne n4, upd_ne n5, upd_ne n4, upd_same]
                  rfl
                | 2, h1, h2 =>
                  cases h1
                  cases h2
                  rw [← hHB, upd_ne (Ne.symm n6), upd_same]
                | i + 3, h1, h2 => cases h1
              have gb : ∀ t ∈ [((m : Int) % 128 + 128) :: ((m : Int) / 128) :: zs, (128 + r3) :: 0 :: [1, 1], ts], BadT t := by
                intro t ht2
                simp only [List.mem_cons, List.not_mem_nil, or_false] at ht2
                rcases ht2 with rfl | rfl | rfl
                · exact bad_much (by omega) (by omega) zs (by omega)
                · exact bad_loose (by omega) [1, 1] (by decide)
                · refine bad_out (fun i hi => ?_) (by omega) (by omega)
                  have := ht i (by omega)
                  omega
              clear hHB hD3 hb4 hb3 hb2 hD1 hb1 h58 hda8
              refine x_fl ⟨_, lq g4⟩ ?_
              refine w_lst (xs := ([b2, b3, D3] : List Addr).map V.ref) (fun i σ H' => ∃ v12, σ = [some (.ref a), some (.ref da), some (.ref p), v3, some (.ref D), some (.ref p5), some (.ref p6), some (.ref p7), some (.ref p8), some (.int c), some (.int (257 + r2)), some (.ref b4), v12, v13] ∧ Ex HB H') ?_ ?_ ?_ ?_
              · exact ⟨_, rfl, Ex.refl _⟩
              · rintro i σ H' _ ⟨_, _, ex⟩
                exact lq (ex _ _ g4)
              · rintro i x σ H' hx ⟨v12, rfl, ex⟩
                obtain ⟨b, t, rfl, h1, h2, h3⟩ := ge.get hx
                obtain ⟨t1, t2, t3⟩ := gb t (List.mem_of_getElem? h2)
                have h3' := ex _ _ h3
                have h5' := ex _ _ g5
                have hr := rfd_bad hb t1 (t3 (encs es))
                walk_at "rdv"
                intro u hu
                walk_at "rdv"
                refine ⟨u, encs es ++ t, rfl, by rw [upd_same, List.map_append], by rw [List.length_append]; omega, ?_⟩
                rw [hr]
                intro H9 ex9
                have h35 := ex9 _ _ (hp_new hu h3')
                have h59 := ex9 _ _ (hp_new hu h5')
                walk_at "rdv"
                rw [List.length_map, decide_eq_true rfl]
                walk_at "rdv"
                intro w hw
                walk_at "rdv"
                refine ⟨w, encs es ++ t, rfl, by rw [upd_same, List.map_append], by rw [List.length_append]; omega, ?_⟩
                rw [hr]
                intro H10 ex10
                walk_at "rdv"
                exact ⟨_, rfl, ((ex.trans (Ex.new hu)).trans ex9).trans ((Ex.new hw).trans ex10)⟩
              · rintro σ H' ⟨v12, rfl, ex⟩
                walk_at "rdv"
                exact q _
end
end Pr
namespace Rw
open PySem PySem.Spec PyProof.Rows L2 Pr
def top (i : Nat) : Stmt := PySem.Challenge.pw_bellows_k79_frames_back.main.body.getD i (.Pass ⟨0, 0, 0, 0⟩)
abbrev FnP (K : PySem.W.Frag) (x q : Str) (st : Stmt) (f : Addr) (fd : FuncData) : Prop := FunD K x q (defArgs st) (defBody st) (defScope st) [] [] f fd
abbrev s_BellowsError___init__ : Stmt := inClass (top 1) 0
abbrev sN_BellowsError___init__ : List Str := ["self", "at"]
abbrev sP_BellowsError___init__ : List Str := ["self", "at"]
theorem sc_BellowsError___init__ : FnScope sN_BellowsError___init__ sP_BellowsError___init__ (defScope s_BellowsError___init__) := ⟨rfl, rfl, rfl, by decide +kernel, rfl, by decide +kernel, by decide +kernel⟩
abbrev s_put_steps : Stmt := top 9
abbrev sN_put_steps : List Str := ["number", "data"]
abbrev sP_put_steps : List Str := ["number"]
theorem sc_put_steps : FnScope sN_put_steps sP_put_steps (defScope s_put_steps) := ⟨rfl, rfl, rfl, by decide +kernel, rfl, by decide +kernel, by decide +kernel⟩
abbrev s_get_steps : Stmt := top 10
abbrev sN_get_steps : List Str := ["data", "at", "number", "k", "byte"]
abbrev sP_get_steps : List Str := ["data", "at"]
theorem sc_get_steps : FnScope sN_get_steps sP_get_steps (defScope s_get_steps) := ⟨rfl, rfl, rfl, by decide +kernel, rfl, by decide +kernel, by decide +kernel⟩
abbrev s_write_frames : Stmt := top 13
abbrev sN_write_frames : List Str := ["entries", "data", "entry"]
abbrev sP_write_frames : List Str := ["entries"]
theorem sc_write_frames : FnScope sN_write_frames sP_write_frames (defScope s_write_frames) := ⟨rfl, rfl, rfl, by decide +kernel, rfl, by decide +kernel, by decide +kernel⟩
abbrev s_frame_size : Stmt := top 15
abbrev sN_frame_size : List Str := ["data", "at", "size", "after"]
abbrev sP_frame_size : List Str := ["data", "at"]
theorem sc_frame_size : FnScope sN_frame_size sP_frame_size (defScope s_frame_size) := ⟨rfl, rfl, rfl, by decide +kernel, rfl, by decide +kernel, by decide +kernel⟩
abbrev s_read_frames : Stmt := top 14
abbrev sN_read_frames : List Str := ["data", "entries", "at", "size", "after"]
abbrev sP_read_frames : List Str := ["data"]
theorem sc_read_frames : FnScope sN_read_frames sP_read_frames (defScope s_read_frames) := ⟨rfl, rfl, rfl, by decide +kernel, rfl, by decide +kernel, by decide +kernel⟩
abbrev s__law_draws : Stmt := top 17
abbrev sN__law_draws : List Str := ["_law_script", "_law_draws_here", "_law_k", "_law_rest", "_law_turn", "_law_mixed"]
abbrev sP__law_draws : List Str := ["_law_script"]
theorem sc__law_draws : FnScope sN__law_draws sP__law_draws (defScope s__law_draws) := ⟨rfl, rfl, rfl, by decide +kernel, rfl, by decide +kernel, by decide +kernel⟩
abbrev s__law_at : Stmt := top 18
abbrev sN__law_at : List Str := ["_law_draws_here", "_law_k", "_law_many"]
abbrev sP__law_at : List Str := ["_law_draws_here", "_law_k", "_law_many"]
theorem sc__law_at : FnScope sN__law_at sP__law_at (defScope s__law_at) := ⟨rfl, rfl, rfl, by decide +kernel, rfl, by decide +kernel, by decide +kernel⟩
abbrev s__law_entries : Stmt := top 20
abbrev sN__law_entries : List Str := ["_law_draws_here", "_law_entries_here", "_law_k", "_law_size", "_law_i"]
abbrev sP__law_entries : List Str := ["_law_draws_here"]
theorem sc__law_entries : FnScope sN__law_entries sP__law_entries (defScope s__law_entries) := ⟨rfl, rfl, rfl, by decide +kernel, rfl, by decide +kernel, by decide +kernel⟩
abbrev s__law_frame : Stmt := top 21
abbrev sN__law_frame : List Str := ["_law_entry"]
abbrev sP__law_frame : List Str := ["_law_entry"]
theorem sc__law_frame : FnScope sN__law_frame sP__law_frame (defScope s__law_frame) := ⟨rfl, rfl, rfl, by decide +kernel, rfl, by decide +kernel, by decide +kernel⟩
abbrev s__law_refusal : Stmt := top 22
abbrev sN__law_refusal : List Str := ["_law_data", "e"]
abbrev sP__law_refusal : List Str := ["_law_data"]
theorem sc__law_refusal : FnScope sN__law_refusal sP__law_refusal (defScope s__law_refusal) := ⟨rfl, rfl, rfl, by decide +kernel, rfl, by decide +kernel, by decide +kernel⟩
abbrev s__law_caught : Stmt := top 23
abbrev sN__law_caught : List Str := ["_law_data", "e"]
abbrev sP__law_caught : List Str := ["_law_data"]
theorem sc__law_caught : FnScope sN__law_caught sP__law_caught (defScope s__law_caught) := ⟨rfl, rfl, rfl, by decide +kernel, rfl, by decide +kernel, by decide +kernel⟩
abbrev s_law : Stmt := top 24
abbrev sN_law : List Str := ["_law_script", "_law_draws_here", "_law_entries_here", "_law_entry", "_law_kept", "_law_data", "_law_starts", "_law_told", "_law_back", "_law_cut", "_law_much", "_law_bad", "_law_tail", "_law_k"]
abbrev sP_law : List Str := ["_law_script"]
theorem sc_law : FnScope sN_law sP_law (defScope s_law) := ⟨rfl, rfl, rfl, by decide +kernel, rfl, by decide +kernel, by decide +kernel⟩
def exs (K : PySem.W.Frag) : List Bool := [veB K, erB K "BellowsError" (He.fAd K ("BellowsError", some "__init__")), erB K "OutOfRange" (He.fAd K ("BellowsError", some "__init__")), erB K "Truncated" (He.fAd K ("BellowsError", some "__init__")), erB K "LooseNumber" (He.fAd K ("BellowsError", some "__init__")), erB K "WrongFrames" (He.fAd K ("BellowsError", some "__init__")), xmB K, decide (PySem.W.kitOne K (.ref (He.ga K "WrongFrames")) (.ref (He.ga K "WrongFrames")) = some true), decide (PySem.W.kitOne K (.ref (He.ga K "WrongFrames")) (.type "ValueError") = some true)]
def exq (K : PySem.W.Frag) : Bool := (exs K).all id
theorem ex_at {K : PySem.W.Frag} (h : exq K = true) (i : Nat) {b : Bool} (e : (exs K)[i]? = some b) : b = true := List.all_eq_true.mp h b (List.mem_of_getElem? e)
structure Tx (K : PySem.W.Frag) (mg : Str → Option Value) where
  f_BellowsError___init__ : Addr
  fd_BellowsError___init__ : FuncData
  F_BellowsError___init__ : FnP K "__init__" "BellowsError.__init__" s_BellowsError___init__ f_BellowsError___init__ fd_BellowsError___init__
  b_BellowsError___init__ : Binds K fd_BellowsError___init__ sP_BellowsError___init__ []
  f_put_steps : Addr
  fd_put_steps : FuncData
  F_put_steps : FnP K "put_steps" "put_steps" s_put_steps f_put_steps fd_put_steps
  b_put_steps : Binds K fd_put_steps sP_put_steps []
  m_put_steps : mg "put_steps" = some (.ref f_put_steps)
  f_get_steps : Addr
  fd_get_steps : FuncData
  F_get_steps : FnP K "get_steps" "get_steps" s_get_steps f_get_steps fd_get_steps
  b_get_steps : Binds K fd_get_steps sP_get_steps []
  m_get_steps : mg "get_steps" = some (.ref f_get_steps)
  f_write_frames : Addr
  fd_write_frames : FuncData
  F_write_frames : FnP K "write_frames" "write_frames" s_write_frames f_write_frames fd_write_frames
  b_write_frames : Binds K fd_write_frames sP_write_frames []
  m_write_frames : mg "write_frames" = some (.ref f_write_frames)
  f_frame_size : Addr
  fd_frame_size : FuncData
  F_frame_size : FnP K "frame_size" "frame_size" s_frame_size f_frame_size fd_frame_size
  b_frame_size : Binds K fd_frame_size sP_frame_size []
  m_frame_size : mg "frame_size" = some (.ref f_frame_size)
  f_read_frames : Addr
  fd_read_frames : FuncData
  F_read_frames : FnP K "read_frames" "read_frames" s_read_frames f_read_frames fd_read_frames
  b_read_frames : Binds K fd_read_frames sP_read_frames []
  m_read_frames : mg "read_frames" = some (.ref f_read_frames)
  f__law_draws : Addr
  fd__law_draws : FuncData
  F__law_draws : FnP K "_law_draws" "_law_draws" s__law_draws f__law_draws fd__law_draws
  b__law_draws : Binds K fd__law_draws sP__law_draws []
  m__law_draws : mg "_law_draws" = some (.ref f__law_draws)
  f__law_at : Addr
  fd__law_at : FuncData
  F__law_at : FnP K "_law_at" "_law_at" s__law_at f__law_at fd__law_at
  b__law_at : Binds K fd__law_at sP__law_at []
  m__law_at : mg "_law_at" = some (.ref f__law_at)
  f__law_entries : Addr
  fd__law_entries : FuncData
  F__law_entries : FnP K "_law_entries" "_law_entries" s__law_entries f__law_entries fd__law_entries
  b__law_entries : Binds K fd__law_entries sP__law_entries []
  m__law_entries : mg "_law_entries" = some (.ref f__law_entries)
  f__law_frame : Addr
  fd__law_frame : FuncData
  F__law_frame : FnP K "_law_frame" "_law_frame" s__law_frame f__law_frame fd__law_frame
  b__law_frame : Binds K fd__law_frame sP__law_frame []
  m__law_frame : mg "_law_frame" = some (.ref f__law_frame)
  f__law_refusal : Addr
  fd__law_refusal : FuncData
  F__law_refusal : FnP K "_law_refusal" "_law_refusal" s__law_refusal f__law_refusal fd__law_refusal
  b__law_refusal : Binds K fd__law_refusal sP__law_refusal []
  m__law_refusal : mg "_law_refusal" = some (.ref f__law_refusal)
  f__law_caught : Addr
  fd__law_caught : FuncData
  F__law_caught : FnP K "_law_caught" "_law_caught" s__law_caught f__law_caught fd__law_caught
  b__law_caught : Binds K fd__law_caught sP__law_caught []
  m__law_caught : mg "_law_caught" = some (.ref f__law_caught)
  f_law : Addr
  fd_law : FuncData
  F_law : FnP K "law" "law" s_law f_law fd_law
  b_law : Binds K fd_law sP_law []
  m_law : mg "law" = some (.ref f_law)
  n_ValueError : mg "ValueError" = none
  n_abs : mg "abs" = none
  n_int : mg "int" = none
  n_isinstance : mg "isinstance" = none
  n_len : mg "len" = none
  n_list : mg "list" = none
  n_max : mg "max" = none
  n_min : mg "min" = none
  n_range : mg "range" = none
  c_BOUND : ∃ u, mg "BOUND" = some u ∧ RelV (.int 9223372036854775808) u
  c_LARGEST_ENTRY : ∃ u, mg "LARGEST_ENTRY" = some u ∧ RelV (.int 256) u
  c_MOST_BYTES : ∃ u, mg "MOST_BYTES" = some u ∧ RelV (.int 9) u
  ve : PySem.W.findCls K (.type "ValueError") (.type "type") "__init__" = some (.val (.builtin "ValueError.__init__"))
  m_BellowsError : mg "BellowsError" = some (.ref (He.ga K "BellowsError"))
  er_BellowsError : Er K "BellowsError" f_BellowsError___init__
  m_OutOfRange : mg "OutOfRange" = some (.ref (He.ga K "OutOfRange"))
  er_OutOfRange : Er K "OutOfRange" f_BellowsError___init__
  m_Truncated : mg "Truncated" = some (.ref (He.ga K "Truncated"))
  er_Truncated : Er K "Truncated" f_BellowsError___init__
  m_LooseNumber : mg "LooseNumber" = some (.ref (He.ga K "LooseNumber"))
  er_LooseNumber : Er K "LooseNumber" f_BellowsError___init__
  m_WrongFrames : mg "WrongFrames" = some (.ref (He.ga K "WrongFrames"))
  er_WrongFrames : Er K "WrongFrames" f_BellowsError___init__
  cx : Cxs K
section
variable {P : Program} {w : World} {K : PySem.W.Frag} {mg : Str → Option Value} {base : Heap}
theorem ok_BellowsError___init__ (T : Tx K mg) : FnOk P w K mg base CX0 1 T.f_BellowsError___init__ T.fd_BellowsError___init__ sP_BellowsError___init__ (sp_init K) := by
  refine T.F_BellowsError___init__.ok sc_BellowsError___init__ (fun vs H Q E h => len_init h) (fun cdv A outer s H vs Q E hr h => ⟨t_init K, PSs.nox ?_, pure_init vs H Q E h⟩)
  exact pss_cons (ps_expr (pe_veinit rfl T.n_ValueError T.ve (pa_cons (pv 0) (pa_cons pe_str pa_nil)))) (pss_one (ps_ost (pv 0) (pv 1)))
theorem okH_BellowsError___init__ (T : Tx K mg) : L2H.FnH P w K mg base CX0 1 T.f_BellowsError___init__ T.fd_BellowsError___init__ sP_BellowsError___init__ (sp_init K) := by
  obtain ⟨oc, od, dV, kV, doc, pm, an, cdv, ct, osl, e, lk, hcd, _, _⟩ := T.F_BellowsError___init__.ex
  rw [e] at lk ⊢
  refine L2H.fn_ofH (k := 0) lk hcd sc_BellowsError___init__ (fun vs H Q E h => len_init h) (fun A outer s H vs Q E p hot hr h => ⟨t_init K, ?_, pure_init vs H Q E h⟩)
  exact pss_cons (ps_expr (pe_veinit rfl T.n_ValueError T.ve (pa_cons (pv 0) (pa_cons pe_str pa_nil)))) (pss_one (ps_ost (pv 0) (pv 1)))
theorem ok_put_steps (T : Tx K mg) : FnOk P w K mg base CX0 3 T.f_put_steps T.fd_put_steps sP_put_steps (sp_put_steps K) := by
  refine T.F_put_steps.ok sc_put_steps (fun vs H Q E h => len_put_steps h) (fun cdv A outer s H vs Q E hr h => ⟨t_put_steps K, PSs.nox ?_, pure_put_steps T.cx vs H Q E h⟩)
  have hu := hu_of hr
  exact (pss_cons (ps_if (PW.pt (pw_or (pt_cmpR op_lt (pv 0) pe_int (nomark _)) (pw_or1 (pt_cmpR op_ge (pv 0) (C8.pe_gc rfl T.c_BOUND) (nomark _))))) (pss_one (L2.ps_raise rfl takes0 (pmk_oex T.er_OutOfRange.o T.er_OutOfRange.i T.er_OutOfRange.ti (ok_BellowsError___init__ T) (hr.mono (by decide)) T.b_BellowsError___init__ .nil pass0 rfl T.m_OutOfRange (pa_cons pe_int pa_nil)))) pss_nil)
  (pss_cons (ps_set (i := 1) sc_put_steps.nd rfl (Or.inl rfl) (pe_lst pa_nil))
  (pss_cons (ps_while PassesOwn.never (pt_cmpR op_ge (pv 0) pe_int (nomark _)) (pss_cons (ps_expr (pe_bm PySem.F.plainAttrs_list PySem.F.slot_list_append PySem.F.type_list_append mt_append (pv 1) (pa_cons (pe_op op_add pe_int (pe_op op_and (pv 0) pe_int)) pa_nil)))
  (pss_one (ps_set (i := 0) sc_put_steps.nd rfl (Or.inl rfl) (pe_op op_shr (pv 0) pe_int)))))
  (pss_cons (ps_expr (pe_bm PySem.F.plainAttrs_list PySem.F.slot_list_append PySem.F.type_list_append mt_append (pv 1) (pa_cons (pv 0) pa_nil)))
  (pss_one (ps_ret (pv 1)))))))
theorem ok_get_steps (T : Tx K mg) : FnOk P w K mg base (L2N.CX P w) 3 T.f_get_steps T.fd_get_steps sP_get_steps (sp_get_steps K) := by
  refine T.F_get_steps.ok sc_get_steps (fun vs H Q E h => len_get_steps h) (fun cdv A outer s H vs Q E hr h => ⟨t_get_steps K E, ?_, pure_get_steps T.cx vs H Q E h⟩)
  have hu := hu_of hr
  exact (pss_cons (ps_if (PW.pt (pw_or (pt_cmpR op_lt (pv 1) pe_int (nomark _)) (pw_or1 (pt_cmpR op_gt (pv 1) (pe_callB call_len_seq (by rfl) T.n_len (by decide +kernel) (pa_cons (pv 0) pa_nil)) (nomark _))))) (pss_one (L2N.ps_raise rfl (L2N.takes_of rfl rfl rfl rfl) (pmk_errN T.er_OutOfRange.o T.er_OutOfRange.i T.er_OutOfRange.ti (ok_BellowsError___init__ T) (hr.mono (by decide)) T.b_BellowsError___init__ pass0 rfl T.m_OutOfRange (pa_cons pe_int pa_nil)))) pss_nil)
  (pss_cons (ps_set (i := 2) sc_get_steps.nd rfl (Or.inl rfl) pe_int)
  (pss_cons (ps_for (passes_of rfl) rfl (pi_range1 rfl T.n_range (pa_cons (C8.pe_gc rfl T.c_MOST_BYTES) pa_nil)) (pg_name (i := 3) sc_get_steps.nd rfl (Or.inl rfl))
  (pss_cons (ps_if (pt_cmpR op_ge (pe_op op_add (pv 1) (pv 3)) (pe_callB call_len_seq (by rfl) T.n_len (by decide +kernel) (pa_cons (pv 0) pa_nil)) (nomark _)) (pss_one (L2N.ps_raise rfl (L2N.takes_of rfl rfl rfl rfl) (pmk_errN T.er_Truncated.o T.er_Truncated.i T.er_Truncated.ti (ok_BellowsError___init__ T) (hr.mono (by decide)) T.b_BellowsError___init__ pass0 rfl T.m_Truncated (pa_cons (pe_callB call_len_seq (by rfl) T.n_len (by decide +kernel) (pa_cons (pv 0) pa_nil)) pa_nil)))) pss_nil)
  (pss_cons (ps_set (i := 4) sc_get_steps.nd rfl (Or.inl rfl) (pe_ix ix_list (pv 0) (pe_op op_add (pv 1) (pv 3)) (fun _ _ => rfl)))
  (pss_cons (ps_set (i := 2) sc_get_steps.nd rfl (Or.inl rfl) (pe_op op_add (pv 2) (pe_op op_shl (pe_op op_and (pv 4) pe_int) (pe_op op_mul pe_int (pv 3)))))
  (pss_one (ps_if (pt_cmpR op_lt (pv 4) pe_int (nomark _)) (pss_cons (ps_if (PW.pt (pw_and (pt_cmpR op_gt (pv 3) pe_int (nomark _)) (pw_and1 (pt_cmpR op_eq (pv 4) pe_int (nomark _))))) (pss_one (L2N.ps_raise rfl (L2N.takes_of rfl rfl rfl rfl) (pmk_errN T.er_LooseNumber.o T.er_LooseNumber.i T.er_LooseNumber.ti (ok_BellowsError___init__ T) (hr.mono (by decide)) T.b_BellowsError___init__ pass0 rfl T.m_LooseNumber (pa_cons (pv 1) pa_nil)))) pss_nil)
  (pss_one (ps_ret (pe_tup (pa_cons (pv 2) (pa_cons (pe_op op_add (pe_op op_add (pv 1) (pv 3)) pe_int) pa_nil)))))) pss_nil))))))
  (pss_one (L2N.ps_raise rfl (L2N.takes_of rfl rfl rfl rfl) (pmk_errN T.er_OutOfRange.o T.er_OutOfRange.i T.er_OutOfRange.ti (ok_BellowsError___init__ T) (hr.mono (by decide)) T.b_BellowsError___init__ pass0 rfl T.m_OutOfRange (pa_cons (pv 1) pa_nil)))))))
theorem ok_write_frames (T : Tx K mg) : FnOk P w K mg base CX0 4 T.f_write_frames T.fd_write_frames sP_write_frames (sp_write_frames K) := by
  refine T.F_write_frames.ok sc_write_frames (fun vs H Q E h => len_write_frames h) (fun cdv A outer s H vs Q E hr h => ⟨t_write_frames K, PSs.nox ?_, pure_write_frames T.cx vs H Q E h⟩)
  have hu := hu_of hr
  exact (pss_cons (ps_set (i := 1) sc_write_frames.nd rfl (Or.inl rfl) (pe_lst pa_nil))
  (pss_cons (ps_for PassesOwn.never rfl (pi_list (pv 0)) (pg_name (i := 2) sc_write_frames.nd rfl (Or.inl rfl))
  (pss_one (ps_set (i := 1) sc_write_frames.nd rfl (Or.inl rfl) (pe_op op_cat (pe_op op_cat (pv 1) (pe_call (ok_put_steps T) (hr.mono (by decide)) rfl T.m_put_steps T.F_put_steps.kp T.b_put_steps .nil pass0 (pa_cons (pe_callB call_len_seq (by rfl) T.n_len (by decide +kernel) (pa_cons (pv 2) pa_nil)) pa_nil))) (pv 2)))))
  (pss_one (ps_ret (pv 1)))))
theorem ok_frame_size (T : Tx K mg) : FnOk P w K mg base (L2.CX P w) 4 T.f_frame_size T.fd_frame_size sP_frame_size (sp_frame_size K) := by
  refine T.F_frame_size.ok sc_frame_size (fun vs H Q E h => len_frame_size h) (fun cdv A outer s H vs Q E hr h => ⟨t_frame_size K E, ?_, pure_frame_size T.cx vs H Q E h⟩)
  have hu := hu_of hr
  exact (pss_cons (ps_try_tup (tb := fun W1 => (tAsg (tCallS (sp_get_steps K) (WE W1) (tCons (tVar 0) (tCons (tVar 1) tNil))) (gTup K 2 (gCons (gName 2) (gCons (gName 3) gNil))))) (ts := (fun a1 cls1 d1 => (tRaise K "WrongFrames" (wE E) (tCons (tVar 1) tNil)))) (Wout := (wE E)) rfl rfl ⟨rfl, by decide, Or.inl T.m_Truncated⟩ ⟨rfl, by decide, Or.inl T.m_LooseNumber⟩ ⟨rfl, by decide, Or.inl T.m_OutOfRange⟩ (L2H.passesAt_of rfl) (L2.takes_of rfl rfl rfl rfl)
  (fun W1 pn1 xe1 tk1 hp1 => (pss_one (ps_asg (pe_callS (ok_get_steps T) (hr.mono (by decide)) rfl T.m_get_steps T.F_get_steps.kp T.b_get_steps (fun σ => L2N.passAt tk1 σ) (pa_cons (pv 0) (pa_cons (pv 1) pa_nil))) (pg_tup rfl (pgs_cons (pg_name (i := 2) sc_frame_size.nd rfl (Or.inl rfl)) (pgs_cons (pg_name (i := 3) sc_frame_size.nd rfl (Or.inl rfl)) pgs_nil))))))
  (fun a1 oe1 cls1 d1 pn1 hz1 hf1 tkS1 hot1 => (pss_one (L2H.ps_raiseHN hot1 tkS1 (L2H.pmk5_oexH T.er_WrongFrames.o T.er_WrongFrames.i T.er_WrongFrames.ti (okH_BellowsError___init__ T) (L2H.roomH_mark (hr.mono (by decide)) _) hot1 T.b_BellowsError___init__ pass0 rfl T.m_WrongFrames (pa_cons (pv 1) pa_nil))))))
  (pss_cons (ps_if (PW.pt (pw_or (pt_cmpR op_gt (pv 2) (C8.pe_gc rfl T.c_LARGEST_ENTRY) (nomark _)) (pw_or1 (pt_cmpR op_gt (pe_op op_add (pv 3) (pv 2)) (pe_callB call_len_seq (by rfl) T.n_len (by decide +kernel) (pa_cons (pv 0) pa_nil)) (nomark _))))) (pss_one (L2.ps_raise rfl (L2.takes_of rfl rfl rfl rfl) (pmk_oex T.er_WrongFrames.o T.er_WrongFrames.i T.er_WrongFrames.ti (ok_BellowsError___init__ T) (hr.mono (by decide)) T.b_BellowsError___init__ .nil pass0 rfl T.m_WrongFrames (pa_cons (pv 1) pa_nil)))) pss_nil)
  (pss_one (ps_ret (pv 2)))))
theorem ok_read_frames (T : Tx K mg) : FnOk P w K mg base (L2.CX P w) 5 T.f_read_frames T.fd_read_frames sP_read_frames (sp_read_frames K) := by
  refine T.F_read_frames.ok sc_read_frames (fun vs H Q E h => len_read_frames h) (fun cdv A outer s H vs Q E hr h => ⟨t_read_frames K E, ?_, pure_read_frames T.cx vs H Q E h⟩)
  have hu := hu_of hr
  exact (pss_cons (ps_set (i := 1) sc_read_frames.nd rfl (Or.inl rfl) (pe_lst pa_nil))
  (pss_cons (ps_set (i := 2) sc_read_frames.nd rfl (Or.inl rfl) pe_int)
  (pss_cons (ps_while (passes_of rfl) (pt_cmpR op_lt (pv 2) (pe_callB call_len_seq (by rfl) T.n_len (by decide +kernel) (pa_cons (pv 0) pa_nil)) (nomark _)) (pss_cons (ps_set (i := 3) sc_read_frames.nd rfl (Or.inl rfl) (pe_callS (ok_frame_size T) (hr.mono (by decide)) rfl T.m_frame_size T.F_frame_size.kp T.b_frame_size (fun σ => L2.passAt (L2.takes_of rfl rfl rfl rfl) σ) (pa_cons (pv 0) (pa_cons (pv 2) pa_nil))))
  (pss_cons (ps_set (i := 4) sc_read_frames.nd rfl (Or.inl rfl) (pe_op op_add (pv 2) (pe_callB call_len_seq (by rfl) T.n_len (by decide +kernel) (pa_cons (pe_call (ok_put_steps T) (hr.mono (by decide)) rfl T.m_put_steps T.F_put_steps.kp T.b_put_steps .nil pass0 (pa_cons (pv 3) pa_nil)) pa_nil))))
  (pss_cons (ps_expr (pe_bm PySem.F.plainAttrs_list PySem.F.slot_list_append PySem.F.type_list_append mt_append (pv 1) (pa_cons (pe_slice sl_list (pv 0) (po_some (pv 4)) (po_some (pe_op op_add (pv 4) (pv 3)))) pa_nil)))
  (pss_one (ps_set (i := 2) sc_read_frames.nd rfl (Or.inl rfl) (pe_op op_add (pv 4) (pv 3))))))))
  (pss_one (ps_ret (pv 1))))))
theorem ok__law_draws (T : Tx K mg) : FnOk P w K mg base CX0 1 T.f__law_draws T.fd__law_draws sP__law_draws (sp__law_draws K) := by
  refine T.F__law_draws.ok sc__law_draws (fun vs H Q E h => len__law_draws h) (fun cdv A outer s H vs Q E hr h => ⟨t__law_draws K, PSs.nox ?_, pure__law_draws T.cx vs H Q E h⟩)
  have hu := hu_of hr
  exact (pss_cons (ps_set (i := 1) sc__law_draws.nd rfl (Or.inl rfl) (pe_lst pa_nil))
  (pss_cons (ps_for PassesOwn.never rfl (pi_range1 rfl T.n_range (pa_cons (pe_callB (call_min2 rfl) (by rfl) T.n_min (by decide +kernel) (pa_cons pe_int (pa_cons (pe_callB call_len_seq (by rfl) T.n_len (by decide +kernel) (pa_cons (pv 0) pa_nil)) pa_nil))) pa_nil)) (pg_name (i := 2) sc__law_draws.nd rfl (Or.inl rfl))
  (pss_cons (ps_set (i := 3) sc__law_draws.nd rfl (Or.inl rfl) (pe_callB call_abs (by rfl) T.n_abs (by decide +kernel) (pa_cons (pe_ix ix_list (pv 0) (pv 2) (fun _ _ => rfl)) pa_nil)))
  (pss_one (ps_if (pt_cmpR op_ge (pv 3) (pe_op op_pow pe_int pe_int) (nomark _)) (pss_one (ps_for PassesOwn.never rfl (pi_range1 rfl T.n_range (pa_cons pe_int pa_nil)) (pg_name (i := 4) sc__law_draws.nd rfl (Or.inl rfl))
  (pss_one (ps_if (pt_cmpR op_gt (pv 3) pe_int (nomark _)) (pss_cons (ps_expr (pe_bm PySem.F.plainAttrs_list PySem.F.slot_list_append PySem.F.type_list_append mt_append (pv 1) (pa_cons (pe_op op_mod (pe_callTy call_int1 (by rfl) T.n_int (by decide +kernel) (pa_cons (pv 3) pa_nil)) pe_int) pa_nil)))
  (pss_one (ps_set (i := 3) sc__law_draws.nd rfl (Or.inl rfl) (pe_op op_fdiv (pv 3) pe_int)))) pss_nil)))) (pss_cons (ps_set (i := 5) sc__law_draws.nd rfl (Or.inl rfl) (pe_op op_mod (pe_callTy call_int1 (by rfl) T.n_int (by decide +kernel) (pa_cons (pe_op op_add (pe_op op_mul (pv 3) pe_int) (pe_op op_mul (pe_op op_add (pv 2) pe_int) pe_int)) pa_nil)) pe_int))
  (pss_cons (ps_set (i := 5) sc__law_draws.nd rfl (Or.inl rfl) (pe_op op_mod (pe_callTy call_int1 (by rfl) T.n_int (by decide +kernel) (pa_cons (pe_op op_add (pe_op op_add (pe_op op_mul (pv 5) pe_int) (pe_op op_mul pe_int (pv 2))) pe_int) pa_nil)) pe_int))
  (pss_cons (ps_expr (pe_bm PySem.F.plainAttrs_list PySem.F.slot_list_append PySem.F.type_list_append mt_append (pv 1) (pa_cons (pe_op op_mod (pe_callTy call_int1 (by rfl) T.n_int (by decide +kernel) (pa_cons (pv 5) pa_nil)) pe_int) pa_nil)))
  (pss_one (ps_expr (pe_bm PySem.F.plainAttrs_list PySem.F.slot_list_append PySem.F.type_list_append mt_append (pv 1) (pa_cons (pe_op op_mod (pe_callTy call_int1 (by rfl) T.n_int (by decide +kernel) (pa_cons (pe_op op_fdiv (pv 5) pe_int) pa_nil)) pe_int) pa_nil)))))))))))
  (pss_one (ps_ret (pv 1)))))
theorem ok__law_at (T : Tx K mg) : FnOk P w K mg base CX0 1 T.f__law_at T.fd__law_at sP__law_at (sp__law_at K) := by
  refine T.F__law_at.ok sc__law_at (fun vs H Q E h => len__law_at h) (fun cdv A outer s H vs Q E hr h => ⟨t__law_at K, PSs.nox ?_, pure__law_at T.cx vs H Q E h⟩)
  have hu := hu_of hr
  exact (pss_cons (ps_if (pt_cmpR op_lt (pv 1) (pe_callB call_len_seq (by rfl) T.n_len (by decide +kernel) (pa_cons (pv 0) pa_nil)) (nomark _)) (pss_one (ps_ret (pe_op op_mod (pe_callTy call_int1 (by rfl) T.n_int (by decide +kernel) (pa_cons (pe_ix ix_list (pv 0) (pv 1) (fun _ _ => rfl)) pa_nil)) (pv 2)))) pss_nil)
  (pss_one (ps_ret pe_int)))
theorem ok__law_entries (T : Tx K mg) : FnOk P w K mg base CX0 2 T.f__law_entries T.fd__law_entries sP__law_entries (sp__law_entries K) := by
  refine T.F__law_entries.ok sc__law_entries (fun vs H Q E h => len__law_entries h) (fun cdv A outer s H vs Q E hr h => ⟨t__law_entries K, PSs.nox ?_, pure__law_entries T.cx vs H Q E h⟩)
  have hu := hu_of hr
  exact (pss_cons (ps_set (i := 1) sc__law_entries.nd rfl (Or.inl rfl) (pe_lst pa_nil))
  (pss_cons (ps_for PassesOwn.never rfl (pi_range1 rfl T.n_range (pa_cons (pe_call (ok__law_at T) (hr.mono (by decide)) rfl T.m__law_at T.F__law_at.kp T.b__law_at .nil pass0 (pa_cons (pv 0) (pa_cons pe_int (pa_cons pe_int pa_nil)))) pa_nil)) (pg_name (i := 2) sc__law_entries.nd rfl (Or.inr rfl))
  (pss_cons (ps_set (i := 3) sc__law_entries.nd rfl (Or.inl rfl) (pe_call (ok__law_at T) (hr.mono (by decide)) rfl T.m__law_at T.F__law_at.kp T.b__law_at .nil pass0 (pa_cons (pv 0) (pa_cons (pe_op op_add (pe_op op_mul pe_int (pv 2)) pe_int) (pa_cons pe_int pa_nil)))))
  (C8.pss_cut (ps_if (pt_cmpR op_eq (pe_call (ok__law_at T) (hr.mono (by decide)) rfl T.m__law_at T.F__law_at.kp T.b__law_at .nil pass0 (pa_cons (pv 0) (pa_cons (pe_op op_add (pe_op op_mul pe_int (pv 2)) pe_int) (pa_cons pe_int pa_nil)))) pe_int (nomark _)) (pss_one (ps_set (i := 3) sc__law_entries.nd rfl (Or.inl rfl) (pe_op op_add pe_int (pe_call (ok__law_at T) (hr.mono (by decide)) rfl T.m__law_at T.F__law_at.kp T.b__law_at .nil pass0 (pa_cons (pv 0) (pa_cons (pe_op op_add (pe_op op_mul pe_int (pv 2)) pe_int) (pa_cons pe_int pa_nil))))))) pss_nil)
  (pss_one (ps_expr (pe_bm PySem.F.plainAttrs_list PySem.F.slot_list_append PySem.F.type_list_append mt_append (pv 1) (pa_cons (pe_lc (own := [("_law_i", 4)]) (g := gName 4) (tt := tYes) rfl sc__law_entries.nd (pi_range1 rfl T.n_range (pa_cons (pv 3) pa_nil)) (blkOk_by (own := [("_law_i", 4)]) (N := sN__law_entries) (sc := defScope s__law_entries) (by decide +kernel)) (fun _ _ _ _ _ => pg_name (i := 4) sc__law_entries.nd rfl (Or.inl rfl)) (fun _ _ _ _ _ => pts_nil)
    (fun _ _ _ _ _ => (pe_op op_mod (pe_callTy call_int1 (by rfl) T.n_int (by decide +kernel) (pa_cons (pe_op op_add (pe_op op_fdiv (pe_call (ok__law_at T) (hr.mono (by decide)) rfl T.m__law_at T.F__law_at.kp T.b__law_at .nil pass0 (pa_cons (pv 0) (pa_cons (pe_op op_add (pe_op op_mul pe_int (pv 2)) pe_int) (pa_cons pe_int pa_nil)))) (pe_op op_add pe_int (pe_op op_fdiv (pv 4) pe_int))) (pe_op op_mul pe_int (pv 4))) pa_nil)) pe_int))) pa_nil)))))))
  (pss_one (ps_ret (pv 1)))))
theorem ok__law_frame (T : Tx K mg) : FnOk P w K mg base CX0 1 T.f__law_frame T.fd__law_frame sP__law_frame (sp__law_frame K) := by
  refine T.F__law_frame.ok sc__law_frame (fun vs H Q E h => len__law_frame h) (fun cdv A outer s H vs Q E hr h => ⟨t__law_frame K, PSs.nox ?_, pure__law_frame T.cx vs H Q E h⟩)
  have hu := hu_of hr
  exact (pss_cons (ps_if (pt_cmpR op_lt (pe_callB call_len_seq (by rfl) T.n_len (by decide +kernel) (pa_cons (pv 0) pa_nil)) pe_int (nomark _)) (pss_one (ps_ret (pe_op op_cat (pe_lst (pa_cons (pe_callB call_len_seq (by rfl) T.n_len (by decide +kernel) (pa_cons (pv 0) pa_nil)) pa_nil)) (pv 0)))) pss_nil)
  (pss_one (ps_ret (pe_op op_cat (pe_lst (pa_cons (pe_op op_add (pe_op op_mod (pe_callTy call_int1 (by rfl) T.n_int (by decide +kernel) (pa_cons (pe_callB call_len_seq (by rfl) T.n_len (by decide +kernel) (pa_cons (pv 0) pa_nil)) pa_nil)) pe_int) pe_int) (pa_cons (pe_op op_fdiv (pe_callB call_len_seq (by rfl) T.n_len (by decide +kernel) (pa_cons (pv 0) pa_nil)) pe_int) pa_nil))) (pv 0)))))
theorem ok__law_refusal (T : Tx K mg) : FnOk P w K mg base CX0 6 T.f__law_refusal T.fd__law_refusal sP__law_refusal (sp__law_refusal K) := by
  refine T.F__law_refusal.ok sc__law_refusal (fun vs H Q E h => len__law_refusal h) (fun cdv A outer s H vs Q E hr h => ⟨t__law_refusal K, PSs.nox ?_, pure__law_refusal T.cx vs H Q E h⟩)
  have hu := hu_of hr
  exact (pss_cons (L2.ps_try_as (i := 1) (tb := fun W1 => (tDrop (tCallS (sp_read_frames K) (WE W1) (tCons (tVar 0) tNil)))) (ts := (fun a1 cls1 d1 => (tRet (tXfV K 1 a1 cls1 d1 "at")))) (Wout := W0) rfl rfl sc__law_refusal.nd rfl rfl ⟨rfl, by decide, Or.inl T.m_WrongFrames⟩ takes0
  (fun W1 pn1 xe1 tk1 hp1 => (pss_one (ps_expr (pe_callS (ok_read_frames T) (hr.mono (by decide)) rfl T.m_read_frames T.F_read_frames.kp T.b_read_frames (fun σ => L2.passAt tk1 σ) (pa_cons (pv 0) pa_nil)))))
  (fun a1 oe1 cls1 d1 pn1 hz1 hf1 => (pss_one (ps_ret (pe_xfv hz1 hf1 (pv 1))))))
  (pss_one (ps_ret (pe_un un_neg pe_int))))
theorem ok__law_caught (T : Tx K mg) : FnOk P w K mg base CX0 6 T.f__law_caught T.fd__law_caught sP__law_caught (sp__law_caught K) := by
  refine T.F__law_caught.ok sc__law_caught (fun vs H Q E h => len__law_caught h) (fun cdv A outer s H vs Q E hr h => ⟨t__law_caught K, PSs.nox ?_, pure__law_caught T.cx vs H Q E h⟩)
  have hu := hu_of hr
  exact (pss_cons (L2.ps_try_as (i := 1) (tb := fun W1 => (tDrop (tCallS (sp_read_frames K) (WE W1) (tCons (tVar 0) tNil)))) (ts := (fun a1 cls1 d1 => (tRet (tAndV (tCB (rIsE2 K a1 cls1 d1) (tCons (tVar 1) (tCons (tC (.ref (He.ga K "WrongFrames"))) tNil))) (tCB (rIsE2 K a1 cls1 d1) (tCons (tVar 1) (tCons (tC (.ty "ValueError")) tNil))))))) (Wout := W0) rfl rfl sc__law_caught.nd rfl rfl ⟨rfl, by decide, Or.inl T.m_BellowsError⟩ takes0
  (fun W1 pn1 xe1 tk1 hp1 => (pss_one (ps_expr (pe_callS (ok_read_frames T) (hr.mono (by decide)) rfl T.m_read_frames T.F_read_frames.kp T.b_read_frames (fun σ => L2.passAt tk1 σ) (pa_cons (pv 0) pa_nil)))))
  (fun a1 oe1 cls1 d1 pn1 hz1 hf1 => (pss_one (ps_ret (pe_and (pe_callB (call_isErr hz1 hf1) (by rfl) T.n_isinstance (by decide +kernel) (pa_cons (pv 1) (pa_cons (C8.pe_gc rfl ⟨_, T.m_WrongFrames, rfl⟩) pa_nil))) (pe_one (pe_callB (call_isErr hz1 hf1) (by rfl) T.n_isinstance (by decide +kernel) (pa_cons (pv 1) (pa_cons (pe_bltn (v := .ty "ValueError") rfl T.n_ValueError (by decide +kernel) rfl) pa_nil)))))))))
  (pss_one (ps_ret pe_bl)))
theorem ok_law (T : Tx K mg) : FnOk P w K mg base CX0 7 T.f_law T.fd_law sP_law (sp_law K) := by
  refine T.F_law.ok sc_law (fun vs H Q E h => len_law h) (fun cdv A outer s H vs Q E hr h => ⟨t_law K, PSs.nox ?_, pure_law T.cx vs H Q E h⟩)
  have hu := hu_of hr
  exact (pss_cons (ps_set (i := 1) sc_law.nd rfl (Or.inr rfl) (pe_call (ok__law_draws T) (hr.mono (by decide)) rfl T.m__law_draws T.F__law_draws.kp T.b__law_draws .nil pass0 (pa_cons (pv 0) pa_nil)))
  (pss_cons (ps_set (i := 2) sc_law.nd rfl (Or.inl rfl) (pe_call (ok__law_entries T) (hr.mono (by decide)) rfl T.m__law_entries T.F__law_entries.kp T.b__law_entries .nil pass0 (pa_cons (pv 1) pa_nil)))
  (pss_cons (ps_setLc (i := 4) (own := [("_law_entry", 3)]) (g := gName 3) (tt := tYes) rfl sc_law.nd rfl rfl (sw_true rfl rfl rfl (by decide +kernel)) (pi_list (pv 2)) (blkOk_by (own := [("_law_entry", 3)]) (N := sN_law) (sc := defScope s_law) (by decide +kernel)) (fun _ _ _ _ _ => pg_name (i := 3) sc_law.nd rfl (Or.inl rfl)) (fun _ _ _ _ _ => pts_nil)
    (fun _ _ _ _ _ => (pe_callTy call_list_of (by rfl) T.n_list (by decide +kernel) (pa_cons (pv 3) pa_nil))))
  (pss_cons (ps_set (i := 5) sc_law.nd rfl (Or.inl rfl) (pe_lst pa_nil))
  (pss_cons (ps_set (i := 6) sc_law.nd rfl (Or.inl rfl) (pe_lst pa_nil))
  (pss_cons (ps_for PassesOwn.never rfl (pi_list (pv 4)) (pg_name (i := 3) sc_law.nd rfl (Or.inl rfl))
  (pss_cons (ps_expr (pe_bm PySem.F.plainAttrs_list PySem.F.slot_list_append PySem.F.type_list_append mt_append (pv 6) (pa_cons (pe_callB call_len_seq (by rfl) T.n_len (by decide +kernel) (pa_cons (pv 5) pa_nil)) pa_nil)))
  (pss_one (ps_set (i := 5) sc_law.nd rfl (Or.inl rfl) (pe_op op_cat (pv 5) (pe_call (ok__law_frame T) (hr.mono (by decide)) rfl T.m__law_frame T.F__law_frame.kp T.b__law_frame .nil pass0 (pa_cons (pv 3) pa_nil)))))))
  (pss_cons (ps_set (i := 7) sc_law.nd rfl (Or.inl rfl) (pe_call (ok_write_frames T) (hr.mono (by decide)) rfl T.m_write_frames T.F_write_frames.kp T.b_write_frames .nil pass0 (pa_cons (pv 2) pa_nil)))
  (pss_cons (ps_if (PW.pt (pw_or (pt_cmpR (op_neD hr.units) (pv 7) (pv 5) (nomark _)) (pw_or (pt_not (pt_val (pe_callB call_isi (by rfl) T.n_isinstance (by decide +kernel) (pa_cons (pv 7) (pa_cons (pe_bltn (v := .ty "list") rfl T.n_list (by decide +kernel) rfl) pa_nil))))) (pw_or1 (pt_cmpR (op_neD hr.units) (pv 2) (pv 4) (nomark _)))))) (pss_one (ps_ret pe_bl)) pss_nil)
  (pss_cons (ps_set (i := 8) sc_law.nd rfl (Or.inl rfl) (pe_callS (ok_read_frames T) (hr.mono (by decide)) rfl T.m_read_frames T.F_read_frames.kp T.b_read_frames (fun σ => L2.passAt takes0 σ) (pa_cons (pv 7) pa_nil)))
  (pss_cons (ps_if (PW.pt (pw_or (pt_cmpR (op_neD hr.units) (pv 8) (pv 4) (nomark _)) (pw_or1 (pt_cmpR (op_neD hr.units) (pv 7) (pv 5) (nomark _))))) (pss_one (ps_ret pe_bl)) pss_nil)
  (pss_cons (ps_for PassesOwn.never rfl (pi_list (pv 8)) (pg_name (i := 3) sc_law.nd rfl (Or.inl rfl))
  (pss_one (ps_expr (pe_bm PySem.F.plainAttrs_list PySem.F.slot_list_append PySem.F.type_list_append mt_append (pv 3) (pa_cons pe_int pa_nil)))))
  (pss_cons (ps_if (pt_cmpR (op_neD hr.units) (pe_callS (ok_read_frames T) (hr.mono (by decide)) rfl T.m_read_frames T.F_read_frames.kp T.b_read_frames (fun σ => L2.passAt takes0 σ) (pa_cons (pv 5) pa_nil)) (pv 4) (nomark _)) (pss_one (ps_ret pe_bl)) pss_nil)
  (pss_cons (ps_set (i := 9) sc_law.nd rfl (Or.inr rfl) (pe_call (ok__law_at T) (hr.mono (by decide)) rfl T.m__law_at T.F__law_at.kp T.b__law_at .nil pass0 (pa_cons (pv 1) (pa_cons pe_int (pa_cons (pe_op op_add (pe_callB call_len_seq (by rfl) T.n_len (by decide +kernel) (pa_cons (pv 5) pa_nil)) pe_int) pa_nil)))))
  (C8.pss_cut (ps_if (PW.pt (pw_or (pt_cmpR op_in_seq (pv 9) (pv 6) (by with_unfolding_all rfl)) (pw_or1 (pt_cmpR op_eq (pv 9) (pe_callB call_len_seq (by rfl) T.n_len (by decide +kernel) (pa_cons (pv 5) pa_nil)) (nomark _))))) (pss_one (ps_if (pt_cmpR (op_neD hr.units) (pe_callS (ok_read_frames T) (hr.mono (by decide)) rfl T.m_read_frames T.F_read_frames.kp T.b_read_frames (fun σ => L2.passAt takes0 σ) (pa_cons (pe_slice sl_list (pv 5) po_none (po_some (pv 9))) pa_nil)) (pe_slice sl_list (pv 4) po_none (po_some (pe_callB call_len_seq (by rfl) T.n_len (by decide +kernel) (pa_cons (pe_lc (own := [("_law_k", 13)]) (g := gName 13) rfl sc_law.nd (pi_list (pv 6)) (blkOk_by (own := [("_law_k", 13)]) (N := sN_law) (sc := defScope s_law) (by decide +kernel)) (fun _ _ _ _ _ => pg_name (i := 13) sc_law.nd rfl (Or.inl rfl)) (fun _ _ _ _ _ => (pts_one (pt_cmpR op_lt (pv 13) (pv 9) (nomark _))))
    (fun _ _ _ _ _ => (pv 13))) pa_nil)))) (nomark _)) (pss_one (ps_ret pe_bl)) pss_nil)) (pss_one (ps_if (pt_cmpR op_ne (pe_call (ok__law_refusal T) (hr.mono (by decide)) rfl T.m__law_refusal T.F__law_refusal.kp T.b__law_refusal .nil pass0 (pa_cons (pe_slice sl_list (pv 5) po_none (po_some (pv 9))) pa_nil)) (pe_callB (cr_max rfl) (by rfl) T.n_max (by decide +kernel) (pa_cons (pe_lc (own := [("_law_k", 13)]) (g := gName 13) rfl sc_law.nd (pi_list (pv 6)) (blkOk_by (own := [("_law_k", 13)]) (N := sN_law) (sc := defScope s_law) (by decide +kernel)) (fun _ _ _ _ _ => pg_name (i := 13) sc_law.nd rfl (Or.inl rfl)) (fun _ _ _ _ _ => (pts_one (pt_cmpR op_lt (pv 13) (pv 9) (nomark _))))
    (fun _ _ _ _ _ => (pv 13))) pa_nil)) (nomark _)) (pss_one (ps_ret pe_bl)) pss_nil)))
  (pss_cons (ps_set (i := 10) sc_law.nd rfl (Or.inl rfl) (pe_op op_add pe_int (pe_call (ok__law_at T) (hr.mono (by decide)) rfl T.m__law_at T.F__law_at.kp T.b__law_at .nil pass0 (pa_cons (pv 1) (pa_cons pe_int (pa_cons pe_int pa_nil))))))
  (pss_cons (ps_set (i := 11) sc_law.nd rfl (Or.inl rfl) (pe_lst (pa_cons (pe_op op_cat (pe_lst (pa_cons (pe_op op_add (pe_op op_mod (pe_callTy call_int1 (by rfl) T.n_int (by decide +kernel) (pa_cons (pv 10) pa_nil)) pe_int) pe_int) (pa_cons (pe_op op_fdiv (pv 10) pe_int) pa_nil))) (pe_lc (own := [("_law_k", 13)]) (g := gName 13) (tt := tYes) rfl sc_law.nd (pi_range1 rfl T.n_range (pa_cons pe_int pa_nil)) (blkOk_by (own := [("_law_k", 13)]) (N := sN_law) (sc := defScope s_law) (by decide +kernel)) (fun _ _ _ _ _ => pg_name (i := 13) sc_law.nd rfl (Or.inl rfl)) (fun _ _ _ _ _ => pts_nil)
    (fun _ _ _ _ _ => pe_int))) (pa_cons (pe_lst (pa_cons (pe_op op_add pe_int (pe_call (ok__law_at T) (hr.mono (by decide)) rfl T.m__law_at T.F__law_at.kp T.b__law_at .nil pass0 (pa_cons (pv 1) (pa_cons pe_int (pa_cons pe_int pa_nil))))) (pa_cons pe_int (pa_cons pe_int (pa_cons pe_int pa_nil))))) pa_nil))))
  (pss_cons (ps_expr (pe_bm PySem.F.plainAttrs_list PySem.F.slot_list_append PySem.F.type_list_append mt_append (pv 11) (pa_cons (pe_lc (own := [("_law_k", 13)]) (g := gName 13) (tt := tYes) rfl sc_law.nd (pi_range1 rfl T.n_range (pa_cons (pe_op op_add pe_int (pe_call (ok__law_at T) (hr.mono (by decide)) rfl T.m__law_at T.F__law_at.kp T.b__law_at .nil pass0 (pa_cons (pv 1) (pa_cons pe_int (pa_cons pe_int pa_nil))))) pa_nil)) (blkOk_by (own := [("_law_k", 13)]) (N := sN_law) (sc := defScope s_law) (by decide +kernel)) (fun _ _ _ _ _ => pg_name (i := 13) sc_law.nd rfl (Or.inl rfl)) (fun _ _ _ _ _ => pts_nil)
    (fun _ _ _ _ _ => (pe_op op_add pe_int (pe_call (ok__law_at T) (hr.mono (by decide)) rfl T.m__law_at T.F__law_at.kp T.b__law_at .nil pass0 (pa_cons (pv 1) (pa_cons pe_int (pa_cons pe_int pa_nil))))))) pa_nil)))
  (pss_cons (ps_for PassesOwn.never rfl (pi_list (pv 11)) (pg_name (i := 12) sc_law.nd rfl (Or.inl rfl))
  (pss_one (ps_if (PW.pt (pw_or (pt_cmpR op_ne (pe_call (ok__law_refusal T) (hr.mono (by decide)) rfl T.m__law_refusal T.F__law_refusal.kp T.b__law_refusal .nil pass0 (pa_cons (pe_op op_cat (pv 5) (pv 12)) pa_nil)) (pe_callB call_len_seq (by rfl) T.n_len (by decide +kernel) (pa_cons (pv 5) pa_nil)) (nomark _)) (pw_or1 (pt_not (pt_val (pe_call (ok__law_caught T) (hr.mono (by decide)) rfl T.m__law_caught T.F__law_caught.kp T.b__law_caught .nil pass0 (pa_cons (pe_op op_cat (pv 5) (pv 12)) pa_nil))))))) (pss_one (ps_ret pe_bl)) pss_nil)))
  (pss_one (ps_ret pe_bl))))))))))))))))))))
end
def d_BellowsError___init__ : He.DefD := ⟨("BellowsError", some "__init__"), "__init__", "BellowsError.__init__", defArgs s_BellowsError___init__, defBody s_BellowsError___init__, defScope s_BellowsError___init__, [], []⟩
def d_put_steps : He.DefD := ⟨("put_steps", none), "put_steps", "put_steps", defArgs s_put_steps, defBody s_put_steps, defScope s_put_steps, [], []⟩
def d_get_steps : He.DefD := ⟨("get_steps", none), "get_steps", "get_steps", defArgs s_get_steps, defBody s_get_steps, defScope s_get_steps, [], []⟩
def d_write_frames : He.DefD := ⟨("write_frames", none), "write_frames", "write_frames", defArgs s_write_frames, defBody s_write_frames, defScope s_write_frames, [], []⟩
def d_frame_size : He.DefD := ⟨("frame_size", none), "frame_size", "frame_size", defArgs s_frame_size, defBody s_frame_size, defScope s_frame_size, [], []⟩
def d_read_frames : He.DefD := ⟨("read_frames", none), "read_frames", "read_frames", defArgs s_read_frames, defBody s_read_frames, defScope s_read_frames, [], []⟩
def d__law_draws : He.DefD := ⟨("_law_draws", none), "_law_draws", "_law_draws", defArgs s__law_draws, defBody s__law_draws, defScope s__law_draws, [], []⟩
def d__law_at : He.DefD := ⟨("_law_at", none), "_law_at", "_law_at", defArgs s__law_at, defBody s__law_at, defScope s__law_at, [], []⟩
def d__law_entries : He.DefD := ⟨("_law_entries", none), "_law_entries", "_law_entries", defArgs s__law_entries, defBody s__law_entries, defScope s__law_entries, [], []⟩
def d__law_frame : He.DefD := ⟨("_law_frame", none), "_law_frame", "_law_frame", defArgs s__law_frame, defBody s__law_frame, defScope s__law_frame, [], []⟩
def d__law_refusal : He.DefD := ⟨("_law_refusal", none), "_law_refusal", "_law_refusal", defArgs s__law_refusal, defBody s__law_refusal, defScope s__law_refusal, [], []⟩
def d__law_caught : He.DefD := ⟨("_law_caught", none), "_law_caught", "_law_caught", defArgs s__law_caught, defBody s__law_caught, defScope s__law_caught, [], []⟩
def d_law : He.DefD := ⟨("law", none), "law", "law", defArgs s_law, defBody s_law, defScope s_law, [], []⟩
def fn : List He.DefD := [d_BellowsError___init__, d_put_steps, d_get_steps, d_write_frames, d_frame_size, d_read_frames, d__law_draws, d__law_at, d__law_entries, d__law_frame, d__law_refusal, d__law_caught, d_law]
def fa : List He.Fa := [.glo "put_steps", .glo "get_steps", .glo "write_frames", .glo "frame_size", .glo "read_frames", .glo "_law_draws", .glo "_law_at", .glo "_law_entries", .glo "_law_frame", .glo "_law_refusal", .glo "_law_caught", .glo "law", .free "ValueError", .free "abs", .free "int", .free "isinstance", .free "len", .free "list", .free "max", .free "min", .free "range", .int "BOUND" 9223372036854775808, .int "LARGEST_ENTRY" 256, .int "MOST_BYTES" 9, .glo "BellowsError", .glo "OutOfRange", .glo "Truncated", .glo "LooseNumber", .glo "WrongFrames"]
theorem tx {K : PySem.W.Frag} {h : Heap} {mg : Str → Option Value} (X : K.In h) (G : h.Ns mainGlobals mg) (c : He.SaysD fa fn K) (cx : exq K = true) : ∃ T : Tx K mg, T.f_law = He.fAd K ("law", none) := by
  obtain ⟨fd_BellowsError___init__, F_BellowsError___init__⟩ := c.def_ 0 (d := d_BellowsError___init__) rfl
  obtain ⟨fd_put_steps, F_put_steps⟩ := c.def_ 1 (d := d_put_steps) rfl
  obtain ⟨fd_get_steps, F_get_steps⟩ := c.def_ 2 (d := d_get_steps) rfl
  obtain ⟨fd_write_frames, F_write_frames⟩ := c.def_ 3 (d := d_write_frames) rfl
  obtain ⟨fd_frame_size, F_frame_size⟩ := c.def_ 4 (d := d_frame_size) rfl
  obtain ⟨fd_read_frames, F_read_frames⟩ := c.def_ 5 (d := d_read_frames) rfl
  obtain ⟨fd__law_draws, F__law_draws⟩ := c.def_ 6 (d := d__law_draws) rfl
  obtain ⟨fd__law_at, F__law_at⟩ := c.def_ 7 (d := d__law_at) rfl
  obtain ⟨fd__law_entries, F__law_entries⟩ := c.def_ 8 (d := d__law_entries) rfl
  obtain ⟨fd__law_frame, F__law_frame⟩ := c.def_ 9 (d := d__law_frame) rfl
  obtain ⟨fd__law_refusal, F__law_refusal⟩ := c.def_ 10 (d := d__law_refusal) rfl
  obtain ⟨fd__law_caught, F__law_caught⟩ := c.def_ 11 (d := d__law_caught) rfl
  obtain ⟨fd_law, F_law⟩ := c.def_ 12 (d := d_law) rfl
  exact ⟨{
    f_BellowsError___init__ := _
    fd_BellowsError___init__ := fd_BellowsError___init__
    F_BellowsError___init__ := F_BellowsError___init__
    b_BellowsError___init__ := F_BellowsError___init__.bindsN fun _ _ _ _ _ _ us hl => match us, hl with | [_, _], _ => rfl
    f_put_steps := _
    fd_put_steps := fd_put_steps
    F_put_steps := F_put_steps
    b_put_steps := F_put_steps.bindsN fun _ _ _ _ _ _ us hl => match us, hl with | [_], _ => rfl
    m_put_steps := He.glo_ok X G (c.fact 0 (f := .glo "put_steps") rfl)
    f_get_steps := _
    fd_get_steps := fd_get_steps
    F_get_steps := F_get_steps
    b_get_steps := F_get_steps.bindsN fun _ _ _ _ _ _ us hl => match us, hl with | [_, _], _ => rfl
    m_get_steps := He.glo_ok X G (c.fact 1 (f := .glo "get_steps") rfl)
    f_write_frames := _
    fd_write_frames := fd_write_frames
    F_write_frames := F_write_frames
    b_write_frames := F_write_frames.bindsN fun _ _ _ _ _ _ us hl => match us, hl with | [_], _ => rfl
    m_write_frames := He.glo_ok X G (c.fact 2 (f := .glo "write_frames") rfl)
    f_frame_size := _
    fd_frame_size := fd_frame_size
    F_frame_size := F_frame_size
    b_frame_size := F_frame_size.bindsN fun _ _ _ _ _ _ us hl => match us, hl with | [_, _], _ => rfl
    m_frame_size := He.glo_ok X G (c.fact 3 (f := .glo "frame_size") rfl)
    f_read_frames := _
    fd_read_frames := fd_read_frames
    F_read_frames := F_read_frames
    b_read_frames := F_read_frames.bindsN fun _ _ _ _ _ _ us hl => match us, hl with | [_], _ => rfl
    m_read_frames := He.glo_ok X G (c.fact 4 (f := .glo "read_frames") rfl)
    f__law_draws := _
    fd__law_draws := fd__law_draws
    F__law_draws := F__law_draws
    b__law_draws := F__law_draws.bindsN fun _ _ _ _ _ _ us hl => match us, hl with | [_], _ => rfl
    m__law_draws := He.glo_ok X G (c.fact 5 (f := .glo "_law_draws") rfl)
    f__law_at := _
    fd__law_at := fd__law_at
    F__law_at := F__law_at
    b__law_at := F__law_at.bindsN fun _ _ _ _ _ _ us hl => match us, hl with | [_, _, _], _ => rfl
    m__law_at := He.glo_ok X G (c.fact 6 (f := .glo "_law_at") rfl)
    f__law_entries := _
    fd__law_entries := fd__law_entries
    F__law_entries := F__law_entries
    b__law_entries := F__law_entries.bindsN fun _ _ _ _ _ _ us hl => match us, hl with | [_], _ => rfl
    m__law_entries := He.glo_ok X G (c.fact 7 (f := .glo "_law_entries") rfl)
    f__law_frame := _
    fd__law_frame := fd__law_frame
    F__law_frame := F__law_frame
    b__law_frame := F__law_frame.bindsN fun _ _ _ _ _ _ us hl => match us, hl with | [_], _ => rfl
    m__law_frame := He.glo_ok X G (c.fact 8 (f := .glo "_law_frame") rfl)
    f__law_refusal := _
    fd__law_refusal := fd__law_refusal
    F__law_refusal := F__law_refusal
    b__law_refusal := F__law_refusal.bindsN fun _ _ _ _ _ _ us hl => match us, hl with | [_], _ => rfl
    m__law_refusal := He.glo_ok X G (c.fact 9 (f := .glo "_law_refusal") rfl)
    f__law_caught := _
    fd__law_caught := fd__law_caught
    F__law_caught := F__law_caught
    b__law_caught := F__law_caught.bindsN fun _ _ _ _ _ _ us hl => match us, hl with | [_], _ => rfl
    m__law_caught := He.glo_ok X G (c.fact 10 (f := .glo "_law_caught") rfl)
    f_law := _
    fd_law := fd_law
    F_law := F_law
    b_law := F_law.bindsN fun _ _ _ _ _ _ us hl => match us, hl with | [_], _ => rfl
    m_law := He.glo_ok X G (c.fact 11 (f := .glo "law") rfl)
    n_ValueError := He.free_ok X G (c.fact 12 (f := .free "ValueError") rfl)
    n_abs := He.free_ok X G (c.fact 13 (f := .free "abs") rfl)
    n_int := He.free_ok X G (c.fact 14 (f := .free "int") rfl)
    n_isinstance := He.free_ok X G (c.fact 15 (f := .free "isinstance") rfl)
    n_len := He.free_ok X G (c.fact 16 (f := .free "len") rfl)
    n_list := He.free_ok X G (c.fact 17 (f := .free "list") rfl)
    n_max := He.free_ok X G (c.fact 18 (f := .free "max") rfl)
    n_min := He.free_ok X G (c.fact 19 (f := .free "min") rfl)
    n_range := He.free_ok X G (c.fact 20 (f := .free "range") rfl)
    c_BOUND := by
      obtain ⟨t, h⟩ := He.int_ok X G (c.fact 21 (f := .int "BOUND" 9223372036854775808) rfl)
      exact ⟨_, h, t, rfl⟩
    c_LARGEST_ENTRY := by
      obtain ⟨t, h⟩ := He.int_ok X G (c.fact 22 (f := .int "LARGEST_ENTRY" 256) rfl)
      exact ⟨_, h, t, rfl⟩
    c_MOST_BYTES := by
      obtain ⟨t, h⟩ := He.int_ok X G (c.fact 23 (f := .int "MOST_BYTES" 9) rfl)
      exact ⟨_, h, t, rfl⟩
    ve := veB_ok (ex_at cx 0 rfl)
    m_BellowsError := He.glo_ok X G (c.fact 24 (f := .glo "BellowsError") rfl)
    er_BellowsError := erB_ok (ex_at cx 1 rfl)
    m_OutOfRange := He.glo_ok X G (c.fact 25 (f := .glo "OutOfRange") rfl)
    er_OutOfRange := erB_ok (ex_at cx 2 rfl)
    m_Truncated := He.glo_ok X G (c.fact 26 (f := .glo "Truncated") rfl)
    er_Truncated := erB_ok (ex_at cx 3 rfl)
    m_LooseNumber := He.glo_ok X G (c.fact 27 (f := .glo "LooseNumber") rfl)
    er_LooseNumber := erB_ok (ex_at cx 4 rfl)
    m_WrongFrames := He.glo_ok X G (c.fact 28 (f := .glo "WrongFrames") rfl)
    er_WrongFrames := erB_ok (ex_at cx 5 rfl)
    cx := ⟨⟨_, erB_ok (ex_at cx 1 rfl)⟩, ⟨_, erB_ok (ex_at cx 2 rfl)⟩, ⟨_, erB_ok (ex_at cx 3 rfl)⟩, ⟨_, erB_ok (ex_at cx 4 rfl)⟩, ⟨_, erB_ok (ex_at cx 5 rfl)⟩, xmB_ok (ex_at cx 6 rfl) _ (List.mem_of_getElem? (i := 0) rfl), xmB_ok (ex_at cx 6 rfl) _ (List.mem_of_getElem? (i := 1) rfl), xmB_ok (ex_at cx 6 rfl) _ (List.mem_of_getElem? (i := 2) rfl), xmB_ok (ex_at cx 6 rfl) _ (List.mem_of_getElem? (i := 3) rfl), xmB_ok (ex_at cx 6 rfl) _ (List.mem_of_getElem? (i := 4) rfl), xmB_ok (ex_at cx 6 rfl) _ (List.mem_of_getElem? (i := 5) rfl), xmB_ok (ex_at cx 6 rfl) _ (List.mem_of_getElem? (i := 6) rfl), xmB_ok (ex_at cx 6 rfl) _ (List.mem_of_getElem? (i := 7) rfl), xmB_ok (ex_at cx 6 rfl) _ (List.mem_of_getElem? (i := 8) rfl), xmB_ok (ex_at cx 6 rfl) _ (List.mem_of_getElem? (i := 9) rfl), xmB_ok (ex_at cx 6 rfl) _ (List.mem_of_getElem? (i := 10) rfl), xmB_ok (ex_at cx 6 rfl) _ (List.mem_of_getElem? (i := 11) rfl), xmB_ok (ex_at cx 6 rfl) _ (List.mem_of_getElem? (i := 12) rfl), xmB_ok (ex_at cx 6 rfl) _ (List.mem_of_getElem? (i := 13) rfl), xmB_ok (ex_at cx 6 rfl) _ (List.mem_of_getElem? (i := 14) rfl), xmB_ok (ex_at cx 6 rfl) _ (List.mem_of_getElem? (i := 15) rfl), xmB_ok (ex_at cx 6 rfl) _ (List.mem_of_getElem? (i := 16) rfl), xmB_ok (ex_at cx 6 rfl) _ (List.mem_of_getElem? (i := 17) rfl), xmB_ok (ex_at cx 6 rfl) _ (List.mem_of_getElem? (i := 18) rfl), xmB_ok (ex_at cx 6 rfl) _ (List.mem_of_getElem? (i := 19) rfl), of_decide_eq_true (ex_at cx 7 rfl), of_decide_eq_true (ex_at cx 8 rfl)⟩
  }, rfl⟩
abbrev R : PySem.W.OpenRow := PySem.W.OpenLaw.row PySem.Challenge.rw_bellows_k79_frames_back
abbrev hk : PySem.W.Hook := He.hookX 6 fa fn [] [] exq
def ob (s : PySem.W.SharedT) : He.AlX := He.obsX 6 fa fn [] [] exq (HandSHeadRun.getT s)
theorem ob_eq (s : PySem.W.SharedT) : ob s = hk.obs s.abs := He.obsX_eq (HandSHeadRun.getT_eq s)
def loose : List Str := ["BellowsError", "OutOfRange", "Truncated", "LooseNumber", "WrongFrames", "MOST_BYTES", "BOUND", "put_steps", "get_steps", "LARGEST_ENTRY", "write_frames", "read_frames", "frame_size", "_law_draws", "_law_at", "_law_is_integer", "_law_entries", "_law_frame", "_law_refusal", "_law_caught"]
theorem run (w : World) : HandSHeadRun.RunEq R (PySem.W.view R.prog [24]) hk ob 2000 loose w := by
  intro os
  kernel_rfl
theorem facts {P : Program} {w : World} {K : PySem.W.Frag} {h : Heap} {mg : Str → Option Value} {f : Addr} (X : K.In h) (G : h.Ns mainGlobals mg) (hfa : mg ("law" : Str) = some (.ref f)) (c : He.SaysD fa fn K) (cx : exq K = true) :
    ∃ fd : FuncData, (∀ (s : Shared) (v : Value), BindsTo s fd ⟨[v], []⟩ [("_law_script", v)]) ∧ ∀ base : Heap, K.In base → base.Ns mainGlobals mg → FnOk P w K mg base CX0 7 f fd ["_law_script"] (sp_law K) := by
  obtain ⟨T, _⟩ := tx X G c cx
  have e := hfa.symm.trans T.m_law
  cases e
  have b := FunD.bindsA (ps := ["_law_script"]) T.F_law fun _ _ _ _ _ _ us hl => match us, hl with | [_], _ => rfl
  exact ⟨_, fun s v => b s [v] rfl, fun base _ _ => ok_law T⟩
end Rw
open PySem PySem.W PySem.Calls PyProof.Rows
theorem PySem.Challenge.cw_bellows_k79_frames_back_holds : PySem.Challenge.rw_bellows_k79_frames_back.Holds := by
  w_on; o_law
  refine HandSHeadRun.head_any (r := OpenLaw.row PySem.Challenge.rw_bellows_k79_frames_back) (q := view (OpenLaw.row PySem.Challenge.rw_bellows_k79_frames_back).prog [24]) (H := Rw.hk) (ob := Rw.ob) (M := 2000) (loose := Rw.loose) (d := HandSHeadRun.topDef (OpenLaw.row PySem.Challenge.rw_bellows_k79_frames_back).prog 24) (kwd := []) Rw.ob_eq
    (by kernel_rfl) (fun s => by kernel_rfl) Rw.run (by kernel_rfl) (by kernel_rfl) (by kernel_rfl) (by rfl) (by first | assumption | decide +kernel) (by decide +kernel) ⟨rfl, rfl, rfl, rfl, rfl, by decide +kernel⟩ ?hw ?hc
  case hw => w_witness2
  case hc =>
    refine L2.walk_ofE (l := PySem.Challenge.rw_bellows_k79_frames_back) (n := 63) (k := 7) (x := "_law_script") (CX := L2.CX0) rfl (by decide) (by kernel_rfl) ⟨rfl, by decide, by decide⟩ ?F (fun _ _ _ _ z => z)
    intro w mg fa h Y G hmg0
    obtain ⟨K, KX, c⟩ := Y
    have cx := c.more
    have c := c.t.d
    have hmg : mg ("law" : PySem.Str) = some (.ref fa) := by
      have e : (HandSHeadRun.topDef (OpenLaw.row PySem.Challenge.rw_bellows_k79_frames_back).prog 24).name = ("law" : PySem.Str) := by kernel_rfl
      rw [← e]
      exact hmg0
    obtain ⟨fd, hb, hF⟩ := Rw.facts (P := (PySem.Challenge.rw_bellows_k79_frames_back).prog) (w := w) KX G hmg c cx
    exact ⟨K, fd, Pr.sp_law K, KX, hb, fun H a ns hl _ hS => Pr.law_start (n := 63) hl hS, hF⟩
#print axioms PySem.Challenge.cw_bellows_k79_frames_back_holds
