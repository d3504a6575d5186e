import PyProof.Rows.All
import Wide.All
import OpenK.AllK
import Wide.FinOn
import HandS.ForMost
import HandS.Defaults
import HandS.HeadHook1
import HandS.HeadHook2
import HandS.Gcd
import HandS.NoneIn
import HandS.Exc
import HandS.WordsExc
import HandS.Codes
import KE.KStateDown
import HandS.Base
import HandS.Call
import HandS.Ends
import HandS.More
import HandS.Words
import HandS.Head0
import HandS.Head1
import HandS.Head2
import HandS.Head3
import HandS.HeadEnd
import HandS.HeadHook3
import HandS.HeadHook4
import HandS.HeadWalk
import HandS.ExcInit
import HandS.ExcField
import HandS.Wide
import HandS.IsInst
import HandS.Zip
import HandS.Walk
import HandS.Deep
import HandS.Conv
import HandS.Style
import HandS.Lambda
import KE.KExcIs
import HandS.DictComp
import KE.KSortKeyAny
import HandS.Keys
import KE.GoesEnum
import KE.GoesMore
import HandS.Star
import HandS.IterVal
import HandS.ListItems
import HandS.TryOnly
import PySem.Challenge.RW_quickbythen_k06_whole_made_of_curves
set_option Elab.async false
set_option linter.all false
set_option maxRecDepth 100000
section
set_option maxHeartbeats 4000000
/-! The text by places; what is known of a def (Def); its call. -/
namespace Q6
open PySem PySem.Spec PyProof.Rows L2
abbrev prg : Program := PySem.Challenge.pw_quickbythen_k06_whole_made_of_curves
def top (i : Nat) : Stmt := prg.main.body.getD i (.Pass ⟨0, 0, 0, 0⟩)
/-- the first statement of a class -/
def ini (i : Nat) : Stmt := (C8.clsBody (top i)).getD 0 (.Pass ⟨0, 0, 0, 0⟩)
abbrev FnP (K : PySem.W.Frag) (x : Str) (st : Stmt) (f : Addr) (fd : FuncData) : Prop := FunD K x x (defArgs st) (defBody st) (defScope st) [] [] f fd
/-- the def's object -/
def HasFd (K : PySem.W.Frag) (f : Addr) (fd : FuncData) : Prop := ∃ (oc : Value) (od : Option Addr) (osl : Array (Option Value)), K.lookup f = some ⟨oc, od, .func fd, osl⟩
/-- a def of the text that keeps a promise -/
structure Def (P : Program) (w : World) (K : PySem.W.Frag) (mg : Str → Option Value) (base : Heap) (CX : CXT) (k : Nat) (x : Str) (ps : List Str) (sp : Sp) : Prop where
  ex : ∃ fd, FnOk P w K mg base CX k (He.ga K x) fd ps sp ∧ Binds K fd ps [] ∧ HasFd K (He.ga K x) fd
  gm : mg x = some (.ref (He.ga K x))
  kp : PySem.W.keepIn K (.ref (He.ga K x)) = true
theorem fnP_fd {K : PySem.W.Frag} {x : Str} {st : Stmt} {f : Addr} {fd : FuncData} (F : FnP K x st f fd) : HasFd K f fd := by
  obtain ⟨oc, od, dV, kV, doc, pm, an, cdv, ct, osl, e, lk, _⟩ := F.ex
  exact ⟨oc, od, osl, lk⟩
/-- what stands behind the top of a def -/
structure At (K : PySem.W.Frag) (mg : Str → Option Value) (x : Str) (i : Nat) : Prop where
  ex : ∃ fd, FnP K x (top i) (He.ga K x) fd
  gm : mg x = some (.ref (He.ga K x))
section
variable {P : Program} {w : World} {K : PySem.W.Frag} {mg : Str → Option Value} {base : Heap} {CX : CXT}
/-- the rule for a def out of which nothing is raised -/
theorem def_of0 {x : Str} {i k : Nat} {N ps : List Str} {sp : Sp} (F : At K mg x i) (S : FnScope N ps (defScope (top i)))
    (hb : ∀ (kV doc pm : Value) (an : Option Addr) (cdv ct : Value) (us : List Value), us.length = ps.length → bindArgs (PySem.W.fnOf x x (defArgs (top i)) (defBody (top i)) (defScope (top i)) .none kV doc pm an cdv ct) ⟨us, []⟩ = pure (ps.zip us))
    (len : ∀ vs H Q E, sp vs H Q E → vs.length = ps.length)
    (hbody : ∀ (cdv : Value) (A : Around) (outer : List Env) (s : Shared) (H : Hp) (vs : List V) (Q : VK) (E : XK), Room k (A.deeper (envOfC x (defScope (top i)) s.heap.objs.size (He.ga K x) cdv)) → sp vs H Q E →
      ∃ t, PSs (cxOf CX0 P w K mg base N x (defScope (top i)) (He.ga K x) cdv A outer s H E).nox (defBody (top i)) t ∧ t { nx := fun _ H' => Q .non H', rt := Q } (L2.start N vs) H) : Def P w K mg base CX0 (k + 1) x ps sp := by
  obtain ⟨fd, F1⟩ := F.ex
  refine ⟨⟨fd, F1.ok S len fun cdv A outer s H vs Q E hr h => ?_, F1.bindsN hb, fnP_fd F1⟩, F.gm, F1.kp⟩
  obtain ⟨t, h1, h2⟩ := hbody cdv A outer s H vs Q E hr h
  exact ⟨t, PSs.nox h1, h2⟩
theorem def_ofX {x : Str} {i k : Nat} {N ps : List Str} {sp : Sp} (F : At K mg x i) (S : FnScope N ps (defScope (top i)))
    (hb : ∀ (kV doc pm : Value) (an : Option Addr) (cdv ct : Value) (us : List Value), us.length = ps.length → bindArgs (PySem.W.fnOf x x (defArgs (top i)) (defBody (top i)) (defScope (top i)) .none kV doc pm an cdv ct) ⟨us, []⟩ = pure (ps.zip us))
    (len : ∀ vs H Q E, sp vs H Q E → vs.length = ps.length)
    (hbody : ∀ (cdv : Value) (A : Around) (outer : List Env) (s : Shared) (H : Hp) (vs : List V) (Q : VK) (E : XK), Room k (A.deeper (envOfC x (defScope (top i)) s.heap.objs.size (He.ga K x) cdv)) → sp vs H Q E →
      ∃ t, PSs (cxOf (L2.CX P w) P w K mg base N x (defScope (top i)) (He.ga K x) cdv A outer s H E) (defBody (top i)) t ∧ t { nx := fun _ H' => Q .non H', rt := Q } (L2.start N vs) H) : Def P w K mg base (L2.CX P w) (k + 1) x ps sp := by
  obtain ⟨fd, F1⟩ := F.ex
  exact ⟨⟨fd, F1.ok S len fun cdv A outer s H vs Q E hr h => hbody cdv A outer s H vs Q E hr h, F1.bindsN hb, fnP_fd F1⟩, F.gm, F1.kp⟩
end
section
variable {X : Cx} {CX : CXT} {k : Nat} {ps : List Str} {sp : Sp} {E : XK} {x : Str} {p pos : Pos} {e : Expr} {es : List Expr} {t : TA}
theorem pe_callD {k' : Nat} (D : Def X.prog X.w X.K X.mg X.base CX k x ps sp) (hr : Room k' X.A) (hk : k ≤ k') (hg : Gl X x) (hx : Passes CX X E) (ha : PA X (e :: es) t)
    (hdb : (x == ("__debug__" : Str)) = false := by decide) (he : starEach (e :: es) X.env = (false, eval e X.env) :: starEach es X.env := by rfl) (hpl : (backTo pos (starEach es X.env)).any (·.1) = false := by rfl) :
    PE X (.Call (.Name x p) (e :: es) [] pos) (tCall sp [] E t) := by
  obtain ⟨fd, F, b, _⟩ := D.ex
  exact pe_call F (hr.mono hk) hg D.gm D.kp b .nil hx ha hdb he hpl
end
/-! walked things and targets of either kind -/
section
variable {X : Cx} {tg : Expr} {pos : Pos}
def iSeq (K : PySem.W.Frag) (tl : TE) : TI := fun σ H R => tl σ H fun x H1 => ∃ a, x = .ref a ∧ (((∃ xs, SqL K H1 a xs) ∧ R (Itl K a) H1) ∨ ((∃ xs, SqT K H1 a xs) ∧ R (Itt K a) H1))
theorem pi_seq {l : Expr} {tl : TE} (hl : PE X l tl) : PI X tg l (iSeq X.K tl) := by
  refine ⟨fun pins s σ H R I h => ?_⟩
  refine thn (hl.run pins s σ H _ I h) fun v s1 ⟨x, H1, I1, r1, q1⟩ => ?_
  obtain ⟨a, e, q⟩ := q1
  rcases q with ⟨hs, q⟩ | ⟨hs, q⟩
  · subst e
    cases r1
    obtain ⟨xs, hq⟩ := hs
    obtain ⟨its, rv, pp, hz⟩ := I1.list hq
    refine wpAny_pyIter_list pp.isList ?_
    refine ⟨s1.heap.objs.size, [s1.heap.objs.size], _, _, H1, rfl, I1.kept (t' := s1.toks) fun b o e => Heap.get?_push_of_some _ e, turn_list a _, ⟨_, Heap.get?_push_size _ rfl, rfl, rfl⟩, fun b hb => ?_, q⟩
    obtain rfl : b = s1.heap.objs.size := by simpa using hb
    exact I1.fpOk (Nat.le_refl _) (I1.hok.fresh (Nat.le_refl _))
  · subst e
    cases r1
    obtain ⟨xs, hq⟩ := hs
    obtain ⟨its, rv, pp, hz⟩ := I1.tuple hq
    refine wpAny_pyIter_tuple (show s1.heap.IsTuple a its.toArray from pp) ?_
    refine ⟨s1.heap.objs.size, [s1.heap.objs.size], _, _, H1, rfl, I1.kept (t' := s1.toks) fun b o e => Heap.get?_push_of_some _ e, turn_tuple a _, ⟨_, Heap.get?_push_size _ rfl, rfl, rfl⟩, fun b hb => ?_, q⟩
    obtain rfl : b = s1.heap.objs.size := by simpa using hb
    exact I1.fpOk (Nat.le_refl _) (I1.hok.fresh (Nat.le_refl _))
def gSeq (K : PySem.W.Frag) (n : Nat) (t : TGs) : TG := fun v σ H Q => gTup K n t v σ H Q ∨ gUnl K n t v σ H Q
theorem pg_seq {es : List Expr} {k : Nat} {t : TGs} {n : Nat} (hc : X.calm = true) (h : PGs X es t)
    (hn : (assignEach es X.env).length = n := by rfl) (hst : (assignEach es X.env).findIdx? (·.1) = none := by rfl) : PG X (.Tuple es k pos) (gSeq X.K n t) := by
  refine ⟨fun pins s σ H v u Q I r hw => ?_⟩
  rcases hw with hw | hw
  · exact (pg_tup hc h hn hst).run pins s σ H v u Q I r hw
  · exact (pg_unl hc h hn hst).run pins s σ H v u Q I r hw
end
end Q6
end
section
set_option maxHeartbeats 0
namespace Q6
open PySem PySem.Spec PyProof.Rows L2
/-! ### the head: the defs by place, the facts by names, the run -/
def dfn (x : Str) (i : Nat) : He.DefD := ⟨(x, none), x, x, defArgs (top i), defBody (top i), defScope (top i), [], []⟩
def dmt (c q : Str) (i : Nat) : He.DefD := ⟨(c, some "__init__"), "__init__", q, defArgs (ini i), defBody (ini i), defScope (ini i), [], []⟩
def fn0 : List He.DefD := [dfn "is_list" 5, dfn "is_whole" 6, dfn "is_positive" 7, dfn "lowest" 8, dfn "is_fraction" 9, dfn "told" 10, dfn "checked_fraction" 11, dfn "plus" 12, dfn "less" 13, dfn "times" 14, dfn "parted" 15, dfn "is_below" 16, dfn "in_order" 17, dfn "is_corner" 19, dfn "is_curve_thing" 20, dfn "steepness" 21, dfn "slopes_of" 22, dfn "normal" 23, dfn "as_told" 24, dfn "place_at" 25, dfn "slope_from" 26, dfn "worth_of" 27, dfn "each_once" 28, dfn "moments_of" 29, dfn "meeting" 30, dfn "joint_moments" 31, dfn "is_lower" 32, dfn "chosen" 33, dfn "least_two" 34, dfn "greatest_two" 35, dfn "summed" 36, dfn "many_times" 37, dfn "apart_by" 38, dfn "checked_curve" 43, dfn "checked_curves" 45, dfn "added" 46, dfn "least_of" 47, dfn "greatest_of" 48, dfn "scaled" 49, dfn "difference" 50]
def fn1 : List He.DefD := [dfn "_law_stream" 52, dfn "_law_draw" 53, dfn "_law_pick" 54, dfn "_law_same" 55, dfn "_law_loose" 56, dfn "_law_common" 57, dfn "_law_low" 58, dfn "_law_plus" 59, dfn "_law_less" 60, dfn "_law_times" 61, dfn "_law_by" 62, dfn "_law_is_below" 63, dfn "_law_least" 64, dfn "_law_greatest" 65, dfn "_law_total" 66, dfn "_law_raw" 67, dfn "_law_unlike" 68, dfn "_law_by_size" 69, dfn "_law_is_told" 70, dfn "_law_middle" 71, dfn "_law_c_at" 72, dfn "_law_c_slopes" 73, dfn "_law_c_slope" 74, dfn "_law_c_worth" 75, dfn "_law_c_plain" 76, dfn "_law_c_is_told" 77, dfn "_law_c_drawn" 78, dfn "_law_c_near" 79, dfn "_law_c_more" 80, dfn "_law_c_raw" 81, dfn "_law_c_passed" 82, dfn "_law_c_moments" 83, dfn "_law_c_points" 84, dfn "_law_odd" 85, dfn "_law_tried" 86, dfn "_law_agrees" 87, dfn "_law_lists_right" 88, dfn "_law_pair_right" 89, dfn "_law_refused_right" 90, dfn "law" 91]
def fnI : List He.DefD := [dmt "BadFraction" "BadFraction.__init__" 3, dmt "BadCurve" "BadCurve.__init__" 40, dmt "BadCurves" "BadCurves.__init__" 41]
def fnAll : List He.DefD := fn0 ++ (fn1 ++ fnI)
def fa0 : List He.Fa := [.glo "is_list", .glo "is_whole", .glo "is_positive", .glo "lowest", .glo "is_fraction", .glo "told", .glo "checked_fraction", .glo "plus", .glo "less", .glo "times", .glo "parted", .glo "is_below", .glo "in_order", .glo "is_corner", .glo "is_curve_thing", .glo "steepness", .glo "slopes_of", .glo "normal", .glo "as_told", .glo "place_at", .glo "slope_from", .glo "worth_of", .glo "each_once", .glo "moments_of", .glo "meeting", .glo "joint_moments", .glo "is_lower", .glo "chosen", .glo "least_two", .glo "greatest_two", .glo "summed", .glo "many_times", .glo "apart_by", .glo "checked_curve", .glo "checked_curves", .glo "added", .glo "least_of", .glo "greatest_of", .glo "scaled", .glo "difference"]
def fa1 : List He.Fa := [.glo "_law_stream", .glo "_law_draw", .glo "_law_pick", .glo "_law_same", .glo "_law_loose", .glo "_law_common", .glo "_law_low", .glo "_law_plus", .glo "_law_less", .glo "_law_times", .glo "_law_by", .glo "_law_is_below", .glo "_law_least", .glo "_law_greatest", .glo "_law_total", .glo "_law_raw", .glo "_law_unlike", .glo "_law_by_size", .glo "_law_is_told", .glo "_law_middle", .glo "_law_c_at", .glo "_law_c_slopes", .glo "_law_c_slope", .glo "_law_c_worth", .glo "_law_c_plain", .glo "_law_c_is_told", .glo "_law_c_drawn", .glo "_law_c_near", .glo "_law_c_more", .glo "_law_c_raw", .glo "_law_c_passed", .glo "_law_c_moments", .glo "_law_c_points", .glo "_law_odd", .glo "_law_tried", .glo "_law_agrees", .glo "_law_lists_right", .glo "_law_pair_right", .glo "_law_refused_right", .glo "law"]
def fa2 : List He.Fa := [.glo "QuickError", .glo "BadFraction", .glo "BadCurve", .glo "BadCurves"]
def faF : List He.Fa := [.free "isinstance", .free "list", .free "tuple", .free "int", .free "bool", .free "len", .free "all", .free "zip", .free "enumerate", .free "sorted", .free "abs", .free "dict", .free "max", .free "repr", .free "range"]
def faAll : List He.Fa := faF ++ (fa0 ++ fa1 ++ fa2)
def exmF : List He.Fa := [.exm "BadCurve" "BadCurve" true, .exm "BadCurves" "BadCurve" false, .exm "BadCurves" "BadCurves" true, .exm "BadFraction" "BadCurve" false, .exm "BadFraction" "BadCurves" false, .exm "BadFraction" "BadFraction" true]
def faAll2 : List He.Fa := exmF ++ faAll
/-- an own class of errors behind ValueError: its object -/
def ownB (K : PySem.W.Frag) (C : Addr) : Bool := match K.lookup C with
  | some ⟨.type t, _, .cls cd, sl⟩ => (match cd.mro, sl.toList with
    | .ref C' :: bm, [_, _, _, _, some (.builtin n), _] => decide (t = "type") && (decide (C' = C) && (decide (n = "ValueError.__new__") && (!cd.hasDel && (cd.hasDict && PySem.HandSPX.refsVE bm))))
    | _, _ => false)
  | _ => false
/-- all that is asked of such a class, f its field -/
def xcB (K : PySem.W.Frag) (cls f : Str) : Bool := ownB K (He.ga K cls) && (decide (PySem.W.findIn K (.ref (He.ga K cls)) "__setattr__" = some (some (.builtin "object.__setattr__"))) && (decide (PySem.W.subIn K (.ref (He.ga K cls)) (.type "BaseException") = some true) &&
  (decide (PySem.W.typeIn K (.ref (He.ga K cls)) = some (.type "type")) && (PySem.W.keepIn K (.ref (He.ga K cls)) && (decide (PySem.W.findIn K (.ref (He.ga K cls)) f = some none) && (xfB K (He.ga K cls) &&
  (decide (PySem.W.findIn K (.ref (He.ga K cls)) "__init__" = some (some (.ref (He.ma K (He.ga K cls) "__init__")))) && decide (PySem.W.typeIn K (.ref (He.ma K (He.ga K cls) "__init__")) = some (.type "function")))))))))
def gcdB (K : PySem.W.Frag) : Bool := match PySem.W.nsIn K mainGlobals "gcd" with
  | some (some (.builtin b)) => decide (b = "math.gcd")
  | _ => false
def oddB (K : PySem.W.Frag) : Bool := match K.lookup (He.ga K "_law_odd") with
  | some o => decide (o.cls = .type "function")
  | _ => false
def tfs : List He.Defn := [("in_order", none), ("_law_by_size", none), ("_law_pair_right", none), ("_law_refused_right", none)]
def exB (K : PySem.W.Frag) : Bool := gcdB K && (oddB K && (decide ((tfs.map fun p => (He.cT K p).2).Nodup) && (xcB K "BadCurve" "thing" && (xcB K "BadCurves" "index" && xcB K "BadFraction" "thing"))))
abbrev R : PySem.W.OpenRow := PySem.W.OpenLaw.row PySem.Challenge.rw_quickbythen_k06_whole_made_of_curves
/-- the defs as they stand, each by itself -/
def obL (K : PySem.W.Frag) : List He.DefD → List He.FnW
  | [] => []
  | d :: r => He.fnW K d.at_ :: obL K r
def valL : List He.DefD → List He.FnW
  | [] => []
  | d :: r => d.val :: valL r
theorem obL_eq (K : PySem.W.Frag) : ∀ l : List He.DefD, obL K l = l.map fun d => He.fnW K d.at_
  | [] => rfl
  | d :: r => by rw [obL, obL_eq K r, List.map_cons]
theorem valL_eq : ∀ l : List He.DefD, valL l = l.map He.DefD.val
  | [] => rfl
  | d :: r => by rw [valL, valL_eq r, List.map_cons]
abbrev AlQ : Type := Bool × List He.FnW
def seeK (g : Addr → Option Obj) (K : PySem.W.Frag) : AlQ := (faAll2.all (fun f => f.ok K) && (fnAll.all (fun d => d.ok K) && (exB K && He.tabsB g tfs K)), obL K fnAll)
/-- the code of a function -/
def codeG (g : Addr → Option Obj) (a : Addr) : List Addr := match g a with
  | some ⟨_, _, .func fd, _⟩ => He.refV fd.code
  | _ => []
/-- behind a global: a function's code; a class's line, its names, their codes -/
def behG (g : Addr → Option Obj) (a : Addr) : List Addr := match g a with
  | some ⟨_, _, .func fd, _⟩ => He.refV fd.code
  | some ⟨_, _, .cls cd, _⟩ => cd.ns :: (match g cd.ns with
    | some ⟨_, _, .dict es _, _⟩ => es.toList.flatMap fun e => (He.refV e.val).flatMap fun m => m :: codeG g m
    | _ => [])
  | _ => []
/-- where is looked -/
def asQ (g : Addr → Option Obj) : List Addr := mainGlobals :: (match g mainGlobals with
  | some ⟨_, _, .dict es _, _⟩ => es.toList.flatMap fun e => (He.refV e.val).flatMap fun a => a :: behG g a
  | _ => [])
def see (g : Addr → Option Obj) : AlQ := seeK g (He.frT g (asQ g))
def seen : AlQ := (true, valL fnAll)
theorem see_of {h : Heap} {w : World} (e : see h.get? = seen) : He.SaysX faAll2 fnAll [] tfs exB w h (He.frT h.get? (asQ h.get?)) := by
  unfold see at e
  generalize hK : He.frT h.get? (asQ h.get?) = K at e ⊢
  unfold seeK seen at e
  obtain ⟨e1, e2⟩ := Prod.mk.inj e
  obtain ⟨a1, e1⟩ := He.ba e1
  obtain ⟨a2, e1⟩ := He.ba e1
  obtain ⟨a3, a4⟩ := He.ba e1
  rw [obL_eq, valL_eq] at e2
  have tab : ∀ p ∈ tfs, PySem.W.codeHdIn K (He.cT K p).1 (He.cT K p).2 = true ∧ ∃ o, h.get? (He.cT K p).2 = some o ∧ He.emptyTab o = true := fun p hp => by
    obtain ⟨b1, b2⟩ := He.ba (List.all_eq_true.mp a4 p hp)
    refine ⟨b1, ?_⟩
    split at b2
    · rename_i o q
      exact ⟨o, q, b2⟩
    · cases b2
  refine ⟨?_, a3, fun p hp => (tab p hp).1, fun p hp => ?_, fun p hp => ?_⟩
  · unfold He.SaysT He.obsT He.valT He.obsD He.valD
    rw [a1, a2, e2] <;> rfl
  · obtain ⟨_, o, q, z⟩ := tab p hp
    rw [← hK] at q ⊢
    exact He.frT_none q z
  · obtain ⟨_, o, q, z⟩ := tab p hp
    rw [q, He.emptyTab_eq z]
abbrev hk : PySem.W.Hook where
  α := AlQ
  obs := fun s => see s.heap.get?
  val := fun _ => seen
  says := (He.hookX 0 faAll2 fnAll [] tfs exB).says
  of := fun _ _ e => ⟨_, He.frT_in, see_of e⟩
  keeps := (He.hookX 0 faAll2 fnAll [] tfs exB).keeps
def ob (s : PySem.W.SharedT) : AlQ := see (HandSHeadRun.getT s)
theorem ob_eq (s : PySem.W.SharedT) : ob s = hk.obs s.abs := by
  show see (HandSHeadRun.getT s) = see s.abs.heap.get?
  rw [show HandSHeadRun.getT s = s.abs.heap.get? from funext (HandSHeadRun.getT_eq s)]

def lo0 : List PySem.Str := [("is_list" : PySem.Str), ("is_whole" : PySem.Str), ("is_positive" : PySem.Str), ("lowest" : PySem.Str), ("is_fraction" : PySem.Str), ("told" : PySem.Str), ("checked_fraction" : PySem.Str), ("plus" : PySem.Str), ("less" : PySem.Str), ("times" : PySem.Str), ("parted" : PySem.Str), ("is_below" : PySem.Str), ("in_order" : PySem.Str), ("is_corner" : PySem.Str), ("is_curve_thing" : PySem.Str), ("steepness" : PySem.Str), ("slopes_of" : PySem.Str), ("normal" : PySem.Str), ("as_told" : PySem.Str), ("place_at" : PySem.Str), ("slope_from" : PySem.Str), ("worth_of" : PySem.Str), ("each_once" : PySem.Str), ("moments_of" : PySem.Str), ("meeting" : PySem.Str), ("joint_moments" : PySem.Str), ("is_lower" : PySem.Str), ("chosen" : PySem.Str), ("least_two" : PySem.Str), ("greatest_two" : PySem.Str), ("summed" : PySem.Str), ("many_times" : PySem.Str), ("apart_by" : PySem.Str), ("checked_curve" : PySem.Str), ("checked_curves" : PySem.Str), ("added" : PySem.Str), ("least_of" : PySem.Str), ("greatest_of" : PySem.Str), ("scaled" : PySem.Str), ("difference" : PySem.Str)]
def lo1 : List PySem.Str := [("_law_stream" : PySem.Str), ("_law_draw" : PySem.Str), ("_law_pick" : PySem.Str), ("_law_same" : PySem.Str), ("_law_loose" : PySem.Str), ("_law_common" : PySem.Str), ("_law_low" : PySem.Str), ("_law_plus" : PySem.Str), ("_law_less" : PySem.Str), ("_law_times" : PySem.Str), ("_law_by" : PySem.Str), ("_law_is_below" : PySem.Str), ("_law_least" : PySem.Str), ("_law_greatest" : PySem.Str), ("_law_total" : PySem.Str), ("_law_raw" : PySem.Str), ("_law_unlike" : PySem.Str), ("_law_by_size" : PySem.Str), ("_law_is_told" : PySem.Str), ("_law_middle" : PySem.Str), ("_law_c_at" : PySem.Str), ("_law_c_slopes" : PySem.Str), ("_law_c_slope" : PySem.Str), ("_law_c_worth" : PySem.Str), ("_law_c_plain" : PySem.Str), ("_law_c_is_told" : PySem.Str), ("_law_c_drawn" : PySem.Str), ("_law_c_near" : PySem.Str), ("_law_c_more" : PySem.Str), ("_law_c_raw" : PySem.Str), ("_law_c_passed" : PySem.Str), ("_law_c_moments" : PySem.Str), ("_law_c_points" : PySem.Str), ("_law_odd" : PySem.Str), ("_law_tried" : PySem.Str), ("_law_agrees" : PySem.Str), ("_law_lists_right" : PySem.Str), ("_law_pair_right" : PySem.Str), ("_law_refused_right" : PySem.Str), ("QuickError" : PySem.Str)]
def lo2 : List PySem.Str := [("BadFraction" : PySem.Str), ("BadCurve" : PySem.Str), ("BadCurves" : PySem.Str)]
def loose : List PySem.Str := "__name__" :: (lo0 ++ lo1 ++ lo2)
theorem run (w : World) : HandSHeadRun.RunEqI R (PySem.W.view R.prog [0, 91]) hk ob 20000 loose w := by
  unfold HandSHeadRun.RunEqI
  kernel_rfl
end Q6
end
section
namespace Qk
abbrev Cor := Rat × Rat
/-- the slope from a corner to a later one -/
def steep (a b : Cor) : Rat := (b.2 - a.2) / (b.1 - a.1)
def slopes : List Cor → Rat → List Rat
  | [], s => [s]
  | [_], s => [s]
  | a :: b :: r, s => steep a b :: slopes (b :: r) s
/-- the slope behind the first corner -/
def first : List Cor → Rat → Rat
  | a :: b :: _, _ => steep a b
  | _, s => s
def Sorted : List Cor → Prop
  | a :: b :: r => a.1 < b.1 ∧ Sorted (b :: r)
  | _ => True
def val : List Cor → Rat → Rat → Rat
  | [], _, _ => 0
  | [a], s, t => a.2 + s * (t - a.1)
  | a :: b :: r, s, t => if t < b.1 then a.2 + steep a b * (t - a.1) else val (b :: r) s t
def slp : List Cor → Rat → Rat → Rat
  | a :: b :: r, s, t => if t < b.1 then steep a b else slp (b :: r) s t
  | _, s, _ => s
/-- what normal keeps behind the first corner; p: the slope so far -/
def dropF : Rat → List Cor → Rat → List Cor
  | _, [], _ => []
  | p, [b], s => if s = p then [] else [b]
  | p, b :: c :: r, s => if steep b c = p then dropF p (c :: r) s else b :: dropF (steep b c) (c :: r) s
def normC : List Cor → Rat → List Cor
  | [], _ => []
  | a :: r, s => a :: dropF (first (a :: r) s) r s
/-- each corner but the first bends -/
def Bends : List Cor → Rat → Prop
  | a :: b :: r, s => first (b :: r) s ≠ steep a b ∧ Bends (b :: r) s
  | _, _ => True

theorem lt_tr {a b c : Rat} (h : a < b) (h2 : b < c) : a < c := by grind
theorem dropF_one_pos {p s : Rat} {b : Cor} (h : s = p) : dropF p [b] s = [] := if_pos h
theorem dropF_one_neg {p s : Rat} {b : Cor} (h : ¬ s = p) : dropF p [b] s = [b] := if_neg h
theorem dropF_pos {p s : Rat} {b c : Cor} {r : List Cor} (h : steep b c = p) : dropF p (b :: c :: r) s = dropF p (c :: r) s := if_pos h
theorem dropF_neg {p s : Rat} {b c : Cor} {r : List Cor} (h : ¬ steep b c = p) : dropF p (b :: c :: r) s = b :: dropF (steep b c) (c :: r) s := if_neg h
theorem first_cons2 {a b : Cor} {r : List Cor} {s : Rat} : first (a :: b :: r) s = steep a b := rfl
theorem steep_line {a b : Cor} (h : a.1 < b.1) : b.2 = a.2 + steep a b * (b.1 - a.1) := by
  unfold steep; grind
theorem steep_join {a b c : Cor} (h : a.1 < b.1) (h2 : b.1 < c.1) (e : steep b c = steep a b) : steep a c = steep a b := by
  have h1 := steep_line h
  have h3 := steep_line h2
  have h4 : c.2 - a.2 = steep a b * (c.1 - a.1) := by grind
  show (c.2 - a.2) / (c.1 - a.1) = steep a b
  grind

/-- a corner at which nothing bends may be left out -/
theorem val_skip {a b c : Cor} {r : List Cor} {s t : Rat} (h : a.1 < b.1) (h2 : b.1 < c.1) (e : steep b c = steep a b) : val (a :: c :: r) s t = val (a :: b :: c :: r) s t := by
  have h1 := steep_line h
  have h3 := steep_join h h2 e
  simp only [val, h3]
  grind
theorem slp_skip {a b c : Cor} {r : List Cor} {s t : Rat} (h : a.1 < b.1) (h2 : b.1 < c.1) (e : steep b c = steep a b) : slp (a :: c :: r) s t = slp (a :: b :: c :: r) s t := by
  have h3 := steep_join h h2 e
  simp only [slp, h3]
  grind
theorem norm_val (s t : Rat) : ∀ (r : List Cor) (a : Cor), Sorted (a :: r) → val (a :: dropF (first (a :: r) s) r s) s t = val (a :: r) s t ∧ slp (a :: dropF (first (a :: r) s) r s) s t = slp (a :: r) s t ∧ first (a :: dropF (first (a :: r) s) r s) s = first (a :: r) s
  | [], a, _ => ⟨rfl, rfl, rfl⟩
  | [b], a, h => by
    have h1 := steep_line h.1
    rw [first_cons2]
    by_cases e : s = steep a b
    · rw [dropF_one_pos e]
      simp only [val, slp, first]
      grind
    · rw [dropF_one_neg e]; exact ⟨rfl, rfl, rfl⟩
  | b :: c :: r, a, h => by
    rw [first_cons2]
    by_cases e : steep b c = steep a b
    · rw [dropF_pos e]
      have hs : Sorted (a :: c :: r) := ⟨lt_tr h.1 h.2.1, h.2.2⟩
      obtain ⟨i1, i2, i3⟩ := norm_val s t (c :: r) a hs
      have e2 : first (a :: c :: r) s = steep a b := steep_join h.1 h.2.1 e
      rw [e2] at i1 i2 i3
      exact ⟨i1.trans (val_skip h.1 h.2.1 e), i2.trans (slp_skip h.1 h.2.1 e), i3⟩
    · rw [dropF_neg e]
      obtain ⟨i1, i2, i3⟩ := norm_val s t (c :: r) b h.2
      rw [first_cons2] at i1 i2 i3
      refine ⟨?_, ?_, rfl⟩
      · have q : ∀ l, val (a :: b :: l) s t = if t < b.1 then a.2 + steep a b * (t - a.1) else val (b :: l) s t := fun l => rfl
        rw [q, q, i1]
      · have q : ∀ l, slp (a :: b :: l) s t = if t < b.1 then steep a b else slp (b :: l) s t := fun l => rfl
        rw [q, q, i2]
theorem dropF_sorted (s : Rat) : ∀ (r : List Cor) (a : Cor) (p : Rat), Sorted (a :: r) → Sorted (a :: dropF p r s)
  | [], _, _, _ => trivial
  | [b], a, p, h => by
    simp only [dropF]; split
    · trivial
    · exact h
  | b :: c :: r, a, p, h => by
    simp only [dropF]; split
    · exact dropF_sorted s (c :: r) a p ⟨lt_tr h.1 h.2.1, h.2.2⟩
    · exact ⟨h.1, dropF_sorted s (c :: r) b _ h.2⟩
theorem norm_bends (s : Rat) : ∀ (r : List Cor) (a : Cor), Sorted (a :: r) → Bends (a :: dropF (first (a :: r) s) r s) s
  | [], _, _ => trivial
  | [b], a, h => by
    rw [first_cons2]
    by_cases e : s = steep a b
    · rw [dropF_one_pos e]; trivial
    · rw [dropF_one_neg e]; exact ⟨e, trivial⟩
  | b :: c :: r, a, h => by
    rw [first_cons2]
    by_cases e : steep b c = steep a b
    · rw [dropF_pos e]
      have i := norm_bends s (c :: r) a ⟨lt_tr h.1 h.2.1, h.2.2⟩
      have e2 : first (a :: c :: r) s = steep a b := steep_join h.1 h.2.1 e
      rw [e2] at i
      exact i
    · rw [dropF_neg e]
      have i := norm_bends s (c :: r) b h.2
      have f := (norm_val s 0 (c :: r) b h.2).2.2
      rw [first_cons2] at i f
      refine ⟨?_, i⟩
      rw [f]; exact e
theorem bends_norm (s : Rat) : ∀ (r : List Cor) (a : Cor), Bends (a :: r) s → dropF (first (a :: r) s) r s = r
  | [], _, _ => rfl
  | [b], a, h => by
    exact dropF_one_neg h.1
  | b :: c :: r, a, h => by
    have h1 : ¬ steep b c = steep a b := h.1
    rw [first_cons2, dropF_neg h1, ← first_cons2 (s := s) (a := b) (b := c) (r := r), bends_norm s (c :: r) b h.2]
theorem normC_told {c : List Cor} {s : Rat} (h : Bends c s) : normC c s = c := by
  cases c with
  | nil => rfl
  | cons a r => exact congrArg (List.cons a) (bends_norm s r a h)
theorem normC_bends {c : List Cor} {s : Rat} (h : Sorted c) : Bends (normC c s) s := by
  cases c with
  | nil => trivial
  | cons a r => exact norm_bends s r a h
theorem normC_sorted {c : List Cor} {s : Rat} (h : Sorted c) : Sorted (normC c s) := by
  cases c with
  | nil => trivial
  | cons a r => exact dropF_sorted s r a _ h
theorem normC_val {c : List Cor} {s t : Rat} (h : Sorted c) : val (normC c s) s t = val c s t := by
  cases c with
  | nil => rfl
  | cons a r => exact (norm_val s t r a h).1
theorem normC_slp {c : List Cor} {s t : Rat} (h : Sorted c) : slp (normC c s) s t = slp c s t := by
  cases c with
  | nil => rfl
  | cons a r => exact (norm_val s t r a h).2.1
theorem dropF_sub (s : Rat) : ∀ (r : List Cor) (p : Rat) (x : Cor), x ∈ dropF p r s → x ∈ r
  | [], _, _, h => h
  | [b], p, x, h => by
    simp only [dropF] at h; split at h
    · simp at h
    · exact h
  | b :: c :: r, p, x, h => by
    simp only [dropF] at h; split at h
    · exact List.mem_cons_of_mem _ (dropF_sub s (c :: r) p x h)
    · rcases List.mem_cons.mp h with e | h
      · exact e ▸ List.mem_cons_self
      · exact List.mem_cons_of_mem _ (dropF_sub s (c :: r) _ x h)
theorem normC_sub {c : List Cor} {s : Rat} {x : Cor} (h : x ∈ normC c s) : x ∈ c := by
  cases c with
  | nil => exact h
  | cons a r =>
    rcases List.mem_cons.mp h with e | h
    · exact e ▸ List.mem_cons_self
    · exact List.mem_cons_of_mem _ (dropF_sub s r _ x h)
theorem dropF_len (s : Rat) : ∀ (r : List Cor) (p : Rat), (dropF p r s).length ≤ r.length
  | [], _ => Nat.le_refl _
  | [b], p => by simp only [dropF]; split <;> simp
  | b :: c :: r, p => by
    simp only [dropF]; split
    · exact Nat.le_trans (dropF_len s (c :: r) p) (by simp)
    · exact Nat.succ_le_succ (dropF_len s (c :: r) _)
theorem normC_len {c : List Cor} {s : Rat} : (normC c s).length ≤ c.length := by
  cases c with
  | nil => exact Nat.le_refl _
  | cons a r => exact Nat.succ_le_succ (dropF_len s r _)
end Qk
end
section
namespace Qk
/-! ### sorted lists of moments -/
abbrev SortedM (l : List Rat) : Prop := l.Pairwise (· < ·)
def ins (x : Rat) : List Rat → List Rat
  | [] => [x]
  | y :: r => if x < y then x :: y :: r else if x = y then y :: r else y :: ins x r
def once (l : List Rat) : List Rat := l.foldr ins []
theorem mem_ins {x z : Rat} : ∀ {l : List Rat}, z ∈ ins x l ↔ z = x ∨ z ∈ l
  | [] => by simp [ins]
  | y :: r => by
    simp only [ins]
    split
    · simp
    · split
      · rename_i h; subst h; simp
      · have := mem_ins (x := x) (z := z) (l := r)
        simp [this]; grind
theorem mem_once {z : Rat} : ∀ {l : List Rat}, z ∈ once l ↔ z ∈ l
  | [] => by simp [once]
  | x :: r => by
    have h : z ∈ once r ↔ z ∈ r := mem_once
    show z ∈ ins x (once r) ↔ _
    rw [mem_ins, h]; simp
theorem sorted_ins {x : Rat} : ∀ {l : List Rat}, SortedM l → SortedM (ins x l)
  | [], _ => by simp [ins]
  | y :: r, h => by
    have h1 := List.pairwise_cons.mp h
    simp only [ins]
    split
    · refine List.pairwise_cons.mpr ⟨fun z hz => ?_, h⟩
      rcases List.mem_cons.mp hz with e | e
      · grind
      · have := h1.1 z e; grind
    · split
      · exact h
      · refine List.pairwise_cons.mpr ⟨fun z hz => ?_, sorted_ins h1.2⟩
        rcases mem_ins.mp hz with e | e
        · grind
        · exact h1.1 z e
theorem sorted_once : ∀ {l : List Rat}, SortedM (once l)
  | [] => List.Pairwise.nil
  | _ :: _ => sorted_ins sorted_once
theorem sorted_ext : ∀ {l m : List Rat}, SortedM l → SortedM m → (∀ x, x ∈ l ↔ x ∈ m) → l = m
  | [], [], _, _, _ => rfl
  | [], y :: m, _, _, h => by have := (h y).mpr List.mem_cons_self; simp at this
  | x :: l, [], _, _, h => by have := (h x).mp List.mem_cons_self; simp at this
  | x :: l, y :: m, h1, h2, h => by
    have p := List.pairwise_cons.mp h1
    have q := List.pairwise_cons.mp h2
    have e : x = y := by
      have a1 := (h x).mp List.mem_cons_self
      have a2 := (h y).mpr List.mem_cons_self
      rcases List.mem_cons.mp a1 with e | e
      · exact e
      · rcases List.mem_cons.mp a2 with e2 | e2
        · exact e2.symm
        · have := q.1 x e; have := p.1 y e2; grind
    subst e
    congr 1
    refine sorted_ext p.2 q.2 fun z => ?_
    have hz := h z
    have p1 := p.1 z
    have q1 := q.1 z
    simp only [List.mem_cons] at hz
    constructor
    · intro m1
      rcases hz.mp (.inr m1) with e | e
      · have := p1 m1; grind
      · exact e
    · intro m1
      rcases hz.mpr (.inr m1) with e | e
      · have := q1 m1; grind
      · exact e
/-- the only ascending list with these members -/
theorem once_eq {l m : List Rat} (h1 : SortedM l) (h : ∀ x, x ∈ l ↔ x ∈ m) : l = once m := sorted_ext h1 sorted_once fun x => (h x).trans mem_once.symm
theorem length_ins {x : Rat} : ∀ {l : List Rat}, (ins x l).length ≤ l.length + 1
  | [] => by simp [ins]
  | y :: r => by
    simp only [ins]
    split
    · simp
    · split
      · simp
      · have := length_ins (x := x) (l := r); simp; omega
theorem length_once : ∀ {l : List Rat}, (once l).length ≤ l.length
  | [] => Nat.le_refl _
  | x :: r => by
    have h := length_once (l := r)
    have h2 := length_ins (x := x) (l := once r)
    show (ins x (once r)).length ≤ r.length + 1
    omega

/-! ### what fits between moments -/
def Fits (f g : Rat → Rat) (s : Rat) : List Rat → Prop
  | [] => True
  | [m] => (∀ t, m ≤ t → f t = f m + s * (t - m)) ∧ ∀ t, m ≤ t → g t = s
  | m :: m' :: r => m < m' ∧ (∀ t, m ≤ t → t ≤ m' → f t = f m + g m * (t - m)) ∧ (∀ t, m ≤ t → t < m' → g t = g m) ∧ Fits f g s (m' :: r)
def pts (f : Rat → Rat) (M : List Rat) : List Cor := M.map fun m => (m, f m)
theorem steep_fit {f g : Rat → Rat} {m m' : Rat} (h : m < m') (h2 : f m' = f m + g m * (m' - m)) : steep (m, f m) (m', f m') = g m := by
  show (f m' - f m) / (m' - m) = g m
  rw [h2]; grind
theorem interp {f g : Rat → Rat} {s : Rat} : ∀ {M : List Rat} {m t : Rat}, Fits f g s (m :: M) → m ≤ t → val (pts f (m :: M)) s t = f t ∧ slp (pts f (m :: M)) s t = g t
  | [], m, t, h, ht => ⟨(h.1 t ht).symm, (h.2 t ht).symm⟩
  | m' :: r, m, t, h, ht => by
    obtain ⟨h1, h2, h3, h4⟩ := h
    have e := steep_fit h1 (h2 m' (by grind) (by grind))
    show (if t < m' then f m + steep (m, f m) (m', f m') * (t - m) else val (pts f (m' :: r)) s t) = f t ∧ (if t < m' then steep (m, f m) (m', f m') else slp (pts f (m' :: r)) s t) = g t
    rw [e]
    by_cases c : t < m'
    · rw [if_pos c, if_pos c]
      exact ⟨(h2 t ht (by grind)).symm, (h3 t ht c).symm⟩
    · rw [if_neg c, if_neg c]
      exact interp h4 (by grind)
theorem pts_sorted {f : Rat → Rat} : ∀ {M : List Rat}, SortedM M → Sorted (pts f M)
  | [], _ => trivial
  | [_], _ => trivial
  | m :: m' :: r, h => ⟨(List.pairwise_cons.mp h).1 m' List.mem_cons_self, pts_sorted (List.pairwise_cons.mp h).2⟩
theorem fits_of {f g : Rat → Rat} {s : Rat} (All : List Rat) (hgap : ∀ m m', m ∈ All → m' ∈ All → m < m' → (∀ x ∈ All, x ≤ m ∨ m' ≤ x) → (∀ t, m ≤ t → t ≤ m' → f t = f m + g m * (t - m)) ∧ (∀ t, m ≤ t → t < m' → g t = g m))
    (hend : ∀ m, m ∈ All → (∀ x ∈ All, x ≤ m) → (∀ t, m ≤ t → f t = f m + s * (t - m)) ∧ ∀ t, m ≤ t → g t = s) :
    ∀ M : List Rat, SortedM M → (∀ x ∈ M, x ∈ All) → (∀ x ∈ All, x ∈ M ∨ ∀ y ∈ M, x < y) → Fits f g s M
  | [], _, _, _ => trivial
  | [m], h, hm, ho => hend m (hm m List.mem_cons_self) fun x hx => by
      rcases ho x hx with e | e
      · have := List.mem_singleton.mp e; grind
      · have := e m List.mem_cons_self; grind
  | m :: m' :: r, h, hm, ho => by
    have p := List.pairwise_cons.mp h
    have q := List.pairwise_cons.mp p.2
    have l := p.1 m' List.mem_cons_self
    obtain ⟨a1, a2⟩ := hgap m m' (hm m List.mem_cons_self) (hm m' (by simp)) l fun x hx => by
      rcases ho x hx with e | e
      · rcases List.mem_cons.mp e with e | e
        · left; grind
        · right
          rcases List.mem_cons.mp e with e | e
          · grind
          · have := q.1 x e; grind
      · left; have := e m List.mem_cons_self; grind
    refine ⟨l, a1, a2, fits_of All hgap hend (m' :: r) p.2 (fun x hx => hm x (List.mem_cons_of_mem _ hx)) fun x hx => ?_⟩
    rcases ho x hx with e | e
    · rcases List.mem_cons.mp e with e | e
      · right; subst e; exact p.1
      · exact .inl e
    · exact .inr fun y hy => e y (List.mem_cons_of_mem _ hy)

/-! ### a curve between its corners -/
theorem val_head {a : Cor} {r : List Cor} {s : Rat} (h : Sorted (a :: r)) : val (a :: r) s a.1 = a.2 := by
  cases r with
  | nil => simp only [val]; grind
  | cons b r => have := h.1; simp only [val]; grind
theorem gap {s x y : Rat} : ∀ {r : List Cor} {a : Cor}, Sorted (a :: r) → a.1 ≤ x → x < y → (∀ c ∈ a :: r, c.1 ≤ x ∨ y ≤ c.1) → 
    (∀ t, x ≤ t → t ≤ y → val (a :: r) s t = val (a :: r) s x + slp (a :: r) s x * (t - x)) ∧ (∀ t, x ≤ t → t < y → slp (a :: r) s t = slp (a :: r) s x)
  | [], a, _, _, _, _ => ⟨fun t _ _ => by simp only [val, slp]; grind, fun _ _ _ => rfl⟩
  | b :: r, a, h, h1, h2, h3 => by
    have l := steep_line h.1
    have hb := val_head (s := s) h.2
    have cv : ∀ t, val (a :: b :: r) s t = if t < b.1 then a.2 + steep a b * (t - a.1) else val (b :: r) s t := fun _ => rfl
    have cs : ∀ t, slp (a :: b :: r) s t = if t < b.1 then steep a b else slp (b :: r) s t := fun _ => rfl
    by_cases c : x < b.1
    · have yb : y ≤ b.1 := by rcases h3 b (by simp) with e | e <;> grind
      refine ⟨fun t h4 h5 => ?_, fun t h4 h5 => ?_⟩
      · rw [cv, cv, cs]
        by_cases c2 : t < b.1
        · grind
        · have e : t = b.1 := by grind
          subst e
          rw [if_neg c2, if_pos c, if_pos c, hb]; grind
      · rw [cs, cs]; grind
    · obtain ⟨i1, i2⟩ := gap (s := s) h.2 (by grind) h2 fun z hz => h3 z (List.mem_cons_of_mem _ hz)
      refine ⟨fun t h4 h5 => ?_, fun t h4 h5 => ?_⟩
      · rw [cv, cv, cs, if_neg (by grind), if_neg c, if_neg c]; exact i1 t h4 h5
      · rw [cs, cs, if_neg (by grind), if_neg c]; exact i2 t h4 h5
theorem gap_end {s x : Rat} : ∀ {r : List Cor} {a : Cor}, Sorted (a :: r) → a.1 ≤ x → (∀ c ∈ a :: r, c.1 ≤ x) →
    (∀ t, x ≤ t → val (a :: r) s t = val (a :: r) s x + s * (t - x)) ∧ (∀ t, x ≤ t → slp (a :: r) s t = s)
  | [], a, _, _, _ => ⟨fun t _ => by simp only [val]; grind, fun _ _ => rfl⟩
  | b :: r, a, h, h1, h3 => by
    have cv : ∀ t, val (a :: b :: r) s t = if t < b.1 then a.2 + steep a b * (t - a.1) else val (b :: r) s t := fun _ => rfl
    have cs : ∀ t, slp (a :: b :: r) s t = if t < b.1 then steep a b else slp (b :: r) s t := fun _ => rfl
    have c : ¬ x < b.1 := by have := h3 b (by simp); grind
    obtain ⟨i1, i2⟩ := gap_end (s := s) h.2 (by grind) fun z hz => h3 z (List.mem_cons_of_mem _ hz)
    refine ⟨fun t h4 => ?_, fun t h4 => ?_⟩
    · rw [cv, cv, if_neg (by grind), if_neg c]; exact i1 t h4
    · rw [cs, if_neg (by grind)]; exact i2 t h4
/-- a curve: its first moment is 0, moments rise -/
structure Crv (c : List Cor) : Prop where
  zero : ∃ w r, c = (0, w) :: r
  sorted : Sorted c
abbrev mom (c : List Cor) : List Rat := c.map (·.1)
theorem Crv.gap {c : List Cor} {s x y : Rat} (h : Crv c) (h0 : 0 ≤ x) (h1 : x < y) (h2 : ∀ m ∈ mom c, m ≤ x ∨ y ≤ m) :
    (∀ t, x ≤ t → t ≤ y → val c s t = val c s x + slp c s x * (t - x)) ∧ (∀ t, x ≤ t → t < y → slp c s t = slp c s x) := by
  obtain ⟨⟨w, r, rfl⟩, hs⟩ := h
  exact Qk.gap hs h0 h1 fun z hz => h2 z.1 (List.mem_map.mpr ⟨z, hz, rfl⟩)
theorem Crv.gap_end {c : List Cor} {s x : Rat} (h : Crv c) (h0 : 0 ≤ x) (h2 : ∀ m ∈ mom c, m ≤ x) :
    (∀ t, x ≤ t → val c s t = val c s x + s * (t - x)) ∧ (∀ t, x ≤ t → slp c s t = s) := by
  obtain ⟨⟨w, r, rfl⟩, hs⟩ := h
  exact Qk.gap_end hs h0 fun z hz => h2 z.1 (List.mem_map.mpr ⟨z, hz, rfl⟩)
theorem Crv.zmem {c : List Cor} (h : Crv c) : (0 : Rat) ∈ mom c := by
  obtain ⟨⟨w, r, rfl⟩, _⟩ := h; simp [mom]
theorem sorted_nn : ∀ {r : List Cor} {a : Cor}, Sorted (a :: r) → ∀ x ∈ a :: r, a.1 ≤ x.1
  | [], a, _, x, hx => by have := List.mem_singleton.mp hx; subst this; grind
  | b :: r, a, h, x, hx => by
    rcases List.mem_cons.mp hx with e | e
    · subst e; grind
    · have := sorted_nn h.2 x e; have := h.1; grind
theorem Crv.nn {c : List Cor} (h : Crv c) : ∀ m ∈ mom c, 0 ≤ m := by
  obtain ⟨⟨w, r, rfl⟩, hs⟩ := h
  intro m hm
  obtain ⟨x, hx, rfl⟩ := List.mem_map.mp hm
  exact sorted_nn hs x hx
theorem Crv.norm {c : List Cor} {s : Rat} (h : Crv c) : Crv (normC c s) := by
  obtain ⟨⟨w, r, rfl⟩, hs⟩ := h
  exact ⟨⟨w, _, rfl⟩, normC_sorted hs⟩
/-- moments from 0 on, 0 among them, make a curve -/
theorem crv_pts {f : Rat → Rat} {M : List Rat} (h : SortedM M) (h0 : 0 ∈ M) (hn : ∀ m ∈ M, 0 ≤ m) : Crv (pts f M) := by
  cases M with
  | nil => simp at h0
  | cons m r =>
    have e : m = 0 := by
      rcases List.mem_cons.mp h0 with e | e
      · exact e.symm
      · have := (List.pairwise_cons.mp h).1 0 e; have := hn m List.mem_cons_self; grind
    subst e
    exact ⟨⟨f 0, _, rfl⟩, pts_sorted h⟩
theorem pts_interp {f g : Rat → Rat} {s t : Rat} {M : List Rat} (h : SortedM M) (h0 : 0 ∈ M) (hn : ∀ m ∈ M, 0 ≤ m) (ht : 0 ≤ t)
    (hgap : ∀ m m', m ∈ M → m' ∈ M → m < m' → (∀ x ∈ M, x ≤ m ∨ m' ≤ x) → (∀ t, m ≤ t → t ≤ m' → f t = f m + g m * (t - m)) ∧ (∀ t, m ≤ t → t < m' → g t = g m))
    (hend : ∀ m, m ∈ M → (∀ x ∈ M, x ≤ m) → (∀ t, m ≤ t → f t = f m + s * (t - m)) ∧ ∀ t, m ≤ t → g t = s) :
    val (pts f M) s t = f t ∧ slp (pts f M) s t = g t := by
  have F := fits_of M hgap hend M h (fun _ x => x) fun _ x => .inl x
  cases M with
  | nil => simp at h0
  | cons m r =>
    refine interp F ?_
    rcases List.mem_cons.mp h0 with e | e
    · grind
    · have := (List.pairwise_cons.mp h).1 0 e; grind
end Qk
end
section
namespace Qk
abbrev Cur := List Cor × Rat
abbrev vl (c : Cur) (t : Rat) : Rat := val c.1 c.2 t
abbrev sl (c : Cur) (t : Rat) : Rat := slp c.1 c.2 t
def norm (c : List Cor) (s : Rat) : Cur := (normC c s, s)
structure Told (c : Cur) : Prop where
  crv : Crv c.1
  bends : Bends c.1 c.2
theorem norm_told {c : List Cor} {s : Rat} (h : Crv c) : Told (norm c s) := ⟨h.norm, normC_bends h.sorted⟩
theorem norm_eq {c : Cur} (h : Told c) : norm c.1 c.2 = c := by
  obtain ⟨c, s⟩ := c
  exact congrArg (fun x => (x, s)) (normC_told h.bends)
theorem norm_vl {c : List Cor} {s t : Rat} (h : Crv c) : vl (norm c s) t = val c s t := normC_val h.sorted
theorem norm_sl {c : List Cor} {s t : Rat} (h : Crv c) : sl (norm c s) t = slp c s t := normC_slp h.sorted

/-! ### sums -/
def total (l : List Rat) : Rat := l.foldl (· + ·) 0
def momsOf (cs : List Cur) : List Rat := cs.flatMap fun c => mom c.1
def summed (cs : List Cur) : Cur := norm (pts (fun t => total (cs.map fun c => vl c t)) (once (momsOf cs ++ [0]))) (total (cs.map (·.2)))
theorem foldl_add (l : List Rat) : ∀ x : Rat, l.foldl (· + ·) x = x + total l := by
  induction l with
  | nil => intro x; show x = x + 0; grind
  | cons a r ih =>
    intro x
    show r.foldl (· + ·) (x + a) = x + r.foldl (· + ·) (0 + a)
    rw [ih, ih]; grind
theorem total_cons (a : Rat) (r : List Rat) : total (a :: r) = a + total r := by
  show r.foldl (· + ·) (0 + a) = _
  rw [foldl_add]; grind
theorem total_aff {cs : List Cur} {m t k : Rat} (h : ∀ c ∈ cs, vl c t = vl c m + sl c m * k) : total (cs.map fun c => vl c t) = total (cs.map fun c => vl c m) + total (cs.map fun c => sl c m) * k := by
  induction cs with
  | nil => show (0 : Rat) = 0 + 0 * k; grind
  | cons c r ih =>
    have i := ih fun c hc => h c (List.mem_cons_of_mem _ hc)
    have q := h c List.mem_cons_self
    rw [List.map_cons, List.map_cons, List.map_cons, total_cons, total_cons, total_cons, i, q]; grind
theorem total_aff2 {cs : List Cur} {m t k : Rat} (h : ∀ c ∈ cs, vl c t = vl c m + c.2 * k) : total (cs.map fun c => vl c t) = total (cs.map fun c => vl c m) + total (cs.map (·.2)) * k := by
  induction cs with
  | nil => show (0 : Rat) = 0 + 0 * k; grind
  | cons c r ih =>
    have i := ih fun c hc => h c (List.mem_cons_of_mem _ hc)
    have q := h c List.mem_cons_self
    rw [List.map_cons, List.map_cons, List.map_cons, total_cons, total_cons, total_cons, i, q]; grind
theorem map_congr {α β : Type} {f g : α → β} {l : List α} (h : ∀ x ∈ l, f x = g x) : l.map f = l.map g := List.map_congr_left h
section
variable {cs : List Cur}
theorem sumM_nn (h : ∀ c ∈ cs, Crv c.1) : ∀ m ∈ once (momsOf cs ++ [0]), 0 ≤ m := fun m hm => by
  rcases List.mem_append.mp (mem_once.mp hm) with e | e
  · obtain ⟨c, hc, hm⟩ := List.mem_flatMap.mp e
    exact (h c hc).nn m hm
  · have := List.mem_singleton.mp e; grind
theorem sumM_zero : (0 : Rat) ∈ once (momsOf cs ++ [0]) := mem_once.mpr (by simp)
theorem sumM_of {c : Cur} (hc : c ∈ cs) : ∀ m ∈ mom c.1, m ∈ once (momsOf cs ++ [0]) := fun m hm => mem_once.mpr (List.mem_append_left _ (List.mem_flatMap.mpr ⟨c, hc, hm⟩))
theorem sum_crv (h : ∀ c ∈ cs, Crv c.1) (f : Rat → Rat) : Crv (pts f (once (momsOf cs ++ [0]))) := crv_pts sorted_once sumM_zero (sumM_nn h)
theorem summed_told (h : ∀ c ∈ cs, Crv c.1) : Told (summed cs) := norm_told (sum_crv h _)
theorem summed_val {t : Rat} (h : ∀ c ∈ cs, Crv c.1) (ht : 0 ≤ t) : vl (summed cs) t = total (cs.map fun c => vl c t) := by
  unfold summed
  rw [norm_vl (sum_crv h _)]
  refine (pts_interp (g := fun t => total (cs.map fun c => sl c t)) sorted_once sumM_zero (sumM_nn h) ht (fun m m' hm hm' hl hx => ?_) fun m hm hx => ?_).1
  · have q : ∀ c ∈ cs, _ := fun c hc => (h c hc).gap (s := c.2) (sumM_nn h m hm) hl fun z hz => hx z (sumM_of hc z hz)
    refine ⟨fun t h1 h2 => total_aff fun c hc => (q c hc).1 t h1 h2, fun t h1 h2 => ?_⟩
    exact congrArg total (map_congr fun c hc => (q c hc).2 t h1 h2)
  · have q : ∀ c ∈ cs, _ := fun c hc => (h c hc).gap_end (s := c.2) (sumM_nn h m hm) fun z hz => hx z (sumM_of hc z hz)
    refine ⟨fun t h1 => total_aff2 fun c hc => (q c hc).1 t h1, fun t h1 => ?_⟩
    exact congrArg total (map_congr fun c hc => (q c hc).2 t h1)
end

/-! ### so many times -/
def timesL (f : Rat) (c : List Cor) : List Cor := c.map fun x => (x.1, f * x.2)
def timesC (f : Rat) (c : Cur) : Cur := norm (timesL f c.1) (f * c.2)
theorem timesL_sorted (f : Rat) : ∀ {c : List Cor}, Sorted c → Sorted (timesL f c)
  | [], _ => trivial
  | [_], _ => trivial
  | _ :: _ :: _, h => ⟨h.1, timesL_sorted f h.2⟩
theorem timesL_crv (f : Rat) {c : List Cor} (h : Crv c) : Crv (timesL f c) := by
  obtain ⟨⟨w, r, rfl⟩, hs⟩ := h
  exact ⟨⟨f * w, timesL f r, rfl⟩, timesL_sorted f hs⟩
theorem steep_times (f : Rat) (a b : Cor) : steep (a.1, f * a.2) (b.1, f * b.2) = f * steep a b := by
  show (f * b.2 - f * a.2) / (b.1 - a.1) = f * ((b.2 - a.2) / (b.1 - a.1))
  rw [Rat.div_def, Rat.div_def]; grind
theorem timesL_val (f : Rat) {s t : Rat} : ∀ {c : List Cor}, val (timesL f c) (f * s) t = f * val c s t
  | [] => by show (0 : Rat) = f * 0; grind
  | [a] => by show f * a.2 + f * s * (t - a.1) = f * (a.2 + s * (t - a.1)); grind
  | a :: b :: r => by
    show (if t < b.1 then f * a.2 + steep (a.1, f * a.2) (b.1, f * b.2) * (t - a.1) else val (timesL f (b :: r)) (f * s) t) = f * (if t < b.1 then a.2 + steep a b * (t - a.1) else val (b :: r) s t)
    rw [steep_times, timesL_val f]
    split <;> grind
theorem timesC_told (f : Rat) {c : Cur} (h : Crv c.1) : Told (timesC f c) := norm_told (timesL_crv f h)
theorem timesC_val (f : Rat) {c : Cur} {t : Rat} (h : Crv c.1) : vl (timesC f c) t = f * vl c t := (norm_vl (timesL_crv f h)).trans (timesL_val f)
def apart (a b : Cur) : Cur := summed [a, timesC (-1) b]
theorem apart_told {a b : Cur} (ha : Crv a.1) (hb : Crv b.1) : Told (apart a b) := summed_told fun c hc => by
  rcases List.mem_cons.mp hc with e | e
  · subst e; exact ha
  · have := List.mem_singleton.mp e; subst this; exact (timesC_told _ hb).crv
theorem apart_val {a b : Cur} {t : Rat} (ha : Crv a.1) (hb : Crv b.1) (ht : 0 ≤ t) : vl (apart a b) t = vl a t - vl b t := by
  unfold apart
  rw [summed_val (fun c hc => by
    rcases List.mem_cons.mp hc with e | e
    · subst e; exact ha
    · have := List.mem_singleton.mp e; subst this; exact (timesC_told _ hb).crv) ht]
  rw [List.map_cons, List.map_cons, List.map_nil, total_cons, total_cons, timesC_val _ hb]
  show vl a t + (-1 * vl b t + 0) = _
  grind
theorem apart_slope (a b : Cur) : (apart a b).2 = a.2 - b.2 := by
  show total [a.2, (timesC (-1) b).2] = _
  rw [total_cons, total_cons]
  show a.2 + (-1 * b.2 + 0) = _
  grind
/-- what is 0 at all moments -/
theorem flat_norm : ∀ (M : List Rat), dropF 0 (pts (fun _ => 0) M) 0 = []
  | [] => rfl
  | [_] => dropF_one_pos rfl
  | m :: m' :: r => by
    have e : steep (m, 0) (m', 0) = 0 := by show ((0 : Rat) - 0) / (m' - m) = 0; rw [Rat.div_def]; grind
    show dropF 0 ((m, 0) :: (m', 0) :: pts (fun _ => 0) r) 0 = []
    rw [dropF_pos e]
    exact flat_norm (m' :: r)
theorem norm_flat {M : List Rat} {f : Rat → Rat} (h0 : (0 : Rat) ∈ M) (hs : SortedM M) (hn : ∀ m ∈ M, 0 ≤ m) (hf : ∀ m ∈ M, f m = 0) : norm (pts f M) 0 = ([(0, 0)], 0) := by
  have e : pts f M = pts (fun _ => 0) M := map_congr fun m hm => by rw [hf m hm]
  rw [e]
  cases M with
  | nil => simp at h0
  | cons m r =>
    have e0 : m = 0 := by
      rcases List.mem_cons.mp h0 with e | e
      · exact e.symm
      · have := (List.pairwise_cons.mp hs).1 0 e; have := hn m List.mem_cons_self; grind
    subst e0
    have ef : first (pts (fun _ => 0) (0 :: r)) 0 = 0 := by
      cases r with
      | nil => rfl
      | cons m' r => show ((0 : Rat) - 0) / (m' - 0) = 0; rw [Rat.div_def]; grind
    show (((0 : Rat), (0 : Rat)) :: dropF (first (pts (fun _ => 0) (0 :: r)) 0) (pts (fun _ => 0) r) 0, (0 : Rat)) = _
    rw [ef, flat_norm]
theorem summed_nil : summed [] = ([(0, 0)], 0) := by
  show norm (pts _ (once [0])) 0 = _
  exact norm_flat (mem_once.mpr (by simp)) sorted_once (fun m hm => by have := List.mem_singleton.mp (mem_once.mp hm); grind) fun m _ => rfl
theorem apart_self {c : Cur} (h : Crv c.1) : apart c c = ([(0, 0)], 0) := by
  have hc : ∀ d ∈ [c, timesC (-1) c], Crv d.1 := fun d hd => by
    rcases List.mem_cons.mp hd with e | e
    · subst e; exact h
    · have := List.mem_singleton.mp e; subst this; exact (timesC_told _ h).crv
  have es : total ([c, timesC (-1) c].map (·.2)) = 0 := by
    have := apart_slope c c
    have e : (apart c c).2 = total ([c, timesC (-1) c].map (·.2)) := rfl
    rw [← e, this]; grind
  unfold apart summed
  rw [es]
  refine norm_flat sumM_zero sorted_once (sumM_nn hc) fun m hm => ?_
  rw [List.map_cons, List.map_cons, List.map_nil, total_cons, total_cons, timesC_val _ h]
  show vl c m + (-1 * vl c m + 0) = _
  grind

/-! ### the lesser, the greater one of two -/
def low (a b : Cur) (t : Rat) : Bool := if vl a t ≠ vl b t then decide (vl a t < vl b t) else !decide (sl b t < sl a t)
def pick (a b : Cur) (w : Bool) (t : Rat) : Cur := if low a b t = w then a else b
def meet (a b : Cur) (m : Rat) : Option Rat := if (vl b m - vl a m) * (sl a m - sl b m) ≤ 0 then none else some (m + (vl b m - vl a m) / (sl a m - sl b m))
def meets (a b : Cur) : List Rat → List Rat
  | [] => []
  | [m] => (meet a b m).toList
  | m :: m' :: r => (match meet a b m with
      | some x => if x < m' then [x] else []
      | none => []) ++ meets a b (m' :: r)
def joint0 (a b : Cur) : List Rat := once (mom a.1 ++ mom b.1)
def joint (a b : Cur) : List Rat := once (joint0 a b ++ meets a b (joint0 a b))
def chosenC (a b : Cur) (w : Bool) (t : Rat) : Rat := vl (pick a b w t) t
def chosenS (a b : Cur) (w : Bool) : Rat := match (joint a b).getLast? with
  | some t => sl (pick a b w t) t
  | none => a.2
def chosen (a b : Cur) (w : Bool) : Cur := norm (pts (chosenC a b w) (joint a b)) (chosenS a b w)

theorem mem_meets {a b : Cur} {x : Rat} : ∀ {l : List Rat}, x ∈ meets a b l → ∃ m ∈ l, meet a b m = some x
  | [], h => by simp [meets] at h
  | [m], h => ⟨m, List.mem_cons_self, by simpa [meets] using h⟩
  | m :: m' :: r, h => by
    simp only [meets] at h
    rcases List.mem_append.mp h with e | e
    · refine ⟨m, List.mem_cons_self, ?_⟩
      split at e
      · rename_i y hy
        split at e
        · rw [hy, List.mem_singleton.mp e]
        · simp at e
      · simp at e
    · obtain ⟨z, hz, e⟩ := mem_meets e
      exact ⟨z, List.mem_cons_of_mem _ hz, e⟩
theorem meets_mem {a b : Cur} {x B : Rat} : ∀ {l : List Rat}, SortedM l → B ∈ l → meet a b B = some x → (∀ y ∈ l, y ≤ B ∨ x < y) → x ∈ meets a b l
  | [], _, h, _, _ => by simp at h
  | [m], _, h, e, _ => by
    have := List.mem_singleton.mp h; subst this
    simp [meets, e]
  | m :: m' :: r, hs, h, e, hy => by
    have p := List.pairwise_cons.mp hs
    simp only [meets]
    rcases List.mem_cons.mp h with q | q
    · subst q
      refine List.mem_append_left _ ?_
      have l := p.1 m' List.mem_cons_self
      have : x < m' := by rcases hy m' (by simp) with z | z <;> grind
      rw [e]; simp [this]
    · exact List.mem_append_right _ (meets_mem p.2 q e fun y hm => hy y (List.mem_cons_of_mem _ hm))
/-- the last one up to m -/
theorem last_le {m : Rat} : ∀ {l : List Rat}, SortedM l → (∃ z ∈ l, z ≤ m) → ∃ B ∈ l, B ≤ m ∧ ∀ y ∈ l, y ≤ B ∨ m < y
  | [], _, ⟨z, h, _⟩ => by simp at h
  | a :: r, hs, ⟨z, hz, hm⟩ => by
    have p := List.pairwise_cons.mp hs
    by_cases h : ∃ z ∈ r, z ≤ m
    · obtain ⟨B, h1, h2, h3⟩ := last_le p.2 h
      refine ⟨B, List.mem_cons_of_mem _ h1, h2, fun y hy => ?_⟩
      rcases List.mem_cons.mp hy with e | e
      · have := p.1 B h1; left; grind
      · exact h3 y e
    · refine ⟨a, List.mem_cons_self, ?_, fun y hy => ?_⟩
      · rcases List.mem_cons.mp hz with e | e
        · grind
        · exact (h ⟨z, e, hm⟩).elim
      · rcases List.mem_cons.mp hy with e | e
        · left; grind
        · right
          have : ¬ y ≤ m := fun q => h ⟨y, e, q⟩
          grind
section
variable {a b : Cur}
theorem joint0_zero (ha : Crv a.1) : (0 : Rat) ∈ joint0 a b := mem_once.mpr (List.mem_append_left _ ha.zmem)
theorem joint0_nn (ha : Crv a.1) (hb : Crv b.1) : ∀ m ∈ joint0 a b, 0 ≤ m := fun m hm => by
  rcases List.mem_append.mp (mem_once.mp hm) with e | e
  · exact ha.nn m e
  · exact hb.nn m e
theorem mem_joint {m : Rat} : m ∈ joint a b ↔ m ∈ joint0 a b ∨ m ∈ meets a b (joint0 a b) := by
  unfold joint; rw [mem_once, List.mem_append]
theorem rat_pos_div {x y : Rat} (h : 0 < x * y) : 0 < x / y := by
  rw [Rat.div_def]
  have hy : y ≠ 0 := by intro e; subst e; grind
  have h2 : 0 < y⁻¹ * y⁻¹ := by
    have e : y⁻¹ ≠ 0 := by intro e; have : y * y⁻¹ = 1 := Rat.mul_inv_cancel y hy; grind
    rcases (show y⁻¹ < 0 ∨ 0 < y⁻¹ by grind) with q | q
    · have := Rat.mul_pos (show (0 : Rat) < - y⁻¹ by grind) (show (0 : Rat) < - y⁻¹ by grind); grind
    · exact Rat.mul_pos q q
  have h3 := Rat.mul_pos h h2
  have e : y * y⁻¹ = 1 := Rat.mul_inv_cancel y hy
  have : x * y * (y⁻¹ * y⁻¹) = x * y⁻¹ := by grind
  grind
theorem meet_gt {m x : Rat} (h : meet a b m = some x) : m < x := by
  unfold meet at h
  split at h
  · cases h
  · rename_i q
    have e := Option.some.inj h
    have := rat_pos_div (x := vl b m - vl a m) (y := sl a m - sl b m) (by grind)
    grind
theorem joint_nn (ha : Crv a.1) (hb : Crv b.1) : ∀ m ∈ joint a b, 0 ≤ m := fun m hm => by
  rcases mem_joint.mp hm with e | e
  · exact joint0_nn ha hb m e
  · obtain ⟨z, hz, e⟩ := mem_meets e
    have := joint0_nn ha hb z hz
    have := meet_gt e
    grind
theorem joint_zero (ha : Crv a.1) : (0 : Rat) ∈ joint a b := mem_joint.mpr (.inl (joint0_zero ha))
theorem joint_crv (ha : Crv a.1) (hb : Crv b.1) (f : Rat → Rat) : Crv (pts f (joint a b)) := crv_pts sorted_once (joint_zero ha) (joint_nn ha hb)
theorem chosen_told {w : Bool} (ha : Crv a.1) (hb : Crv b.1) : Told (chosen a b w) := norm_told (joint_crv ha hb _)
/-- from m on (up to m') both go straight; they do not cross there -/
theorem cross (ha : Crv a.1) (hb : Crv b.1) {m : Rat} {m' : Option Rat} (hm : m ∈ joint a b) (hl : ∀ y, m' = some y → m < y) (hx : ∀ x ∈ joint a b, x ≤ m ∨ ∃ y, m' = some y ∧ y ≤ x)
    (hs : (vl a m - vl b m) * (sl a m - sl b m) < 0) : ∃ y, m' = some y ∧ y ≤ m - (vl a m - vl b m) / (sl a m - sl b m) := by
  have m0 := joint_nn ha hb m hm
  have s0 : SortedM (joint0 a b) := sorted_once
  obtain ⟨B, hB, hBm, hB2⟩ := last_le s0 ⟨0, joint0_zero ha, m0⟩
  have B0 := joint0_nn ha hb B hB
  have sub : ∀ y ∈ joint0 a b, y ≤ B ∨ ∃ z, m' = some z ∧ z ≤ y := fun y hy => by
    rcases hB2 y hy with e | e
    · exact .inl e
    · rcases hx y (mem_joint.mpr (.inl hy)) with q | q
      · exfalso; grind
      · exact .inr q
  -- the value at m and the slope there, from B
  have both : ∀ c : Cur, Crv c.1 → (∀ z ∈ mom c.1, z ∈ joint0 a b) → vl c m = vl c B + sl c B * (m - B) ∧ sl c m = sl c B := fun c hc hz => by
    cases m' with
    | none =>
      have q := hc.gap_end (s := c.2) B0 fun z h => by
        rcases sub z (hz z h) with e | ⟨_, e, _⟩
        · exact e
        · cases e
      have e1 := q.2 B (by grind)
      exact ⟨by rw [show vl c m = _ from q.1 m hBm, show sl c B = c.2 from e1], (q.2 m hBm).trans e1.symm⟩
    | some y =>
      have l := hl y rfl
      have q := hc.gap (s := c.2) (x := B) (y := y) B0 (by grind) fun z h => by
        rcases sub z (hz z h) with e | ⟨y', e, l'⟩
        · exact .inl e
        · cases e; exact .inr l'
      exact ⟨q.1 m hBm (by grind), q.2 m hBm l⟩
  obtain ⟨a1, a2⟩ := both a ha fun z h => mem_once.mpr (List.mem_append_left _ h)
  obtain ⟨b1, b2⟩ := both b hb fun z h => mem_once.mpr (List.mem_append_right _ h)
  rw [a2, b2] at hs ⊢
  have k0 : sl a B - sl b B ≠ 0 := by intro e; rw [e] at hs; grind
  have hsq : 0 ≤ (sl a B - sl b B) * (sl a B - sl b B) * (m - B) := by
    have h1 : 0 ≤ (sl a B - sl b B) * (sl a B - sl b B) := by
      rcases (show sl a B - sl b B ≤ 0 ∨ 0 ≤ sl a B - sl b B by grind) with q | q
      · have := Rat.mul_nonneg (show (0 : Rat) ≤ -(sl a B - sl b B) by grind) (show (0 : Rat) ≤ -(sl a B - sl b B) by grind); grind
      · exact Rat.mul_nonneg q q
    exact Rat.mul_nonneg h1 (by grind)
  have pos : ¬ (vl b B - vl a B) * (sl a B - sl b B) ≤ 0 := by
    have : (vl b B - vl a B) * (sl a B - sl b B) = - ((vl a m - vl b m) * (sl a B - sl b B)) + (sl a B - sl b B) * (sl a B - sl b B) * (m - B) := by rw [a1, b1]; grind
    grind
  have hmeet : meet a b B = some (B + (vl b B - vl a B) / (sl a B - sl b B)) := by unfold meet; exact if_neg pos
  have ex : B + (vl b B - vl a B) / (sl a B - sl b B) = m - (vl a m - vl b m) / (sl a B - sl b B) := by
    rw [a1, b1]; grind
  rw [ex] at hmeet
  have gt : m < m - (vl a m - vl b m) / (sl a B - sl b B) := by
    have := rat_pos_div (x := -(vl a m - vl b m)) (y := sl a B - sl b B) (by grind)
    rw [Rat.div_def] at this ⊢; grind
  -- if it lay ahead of m', it would stand among them
  have no : ∀ x, x = m - (vl a m - vl b m) / (sl a B - sl b B) → (∀ y, m' = some y → x < y) → False := fun x ex h => by
    rw [← ex] at hmeet gt
    have hin : x ∈ meets a b (joint0 a b) := meets_mem s0 hB hmeet fun y hy => by
      rcases sub y hy with e | ⟨z, e, l⟩
      · exact .inl e
      · have := h z e; right; grind
    rcases hx x (mem_joint.mpr (.inr hin)) with e | ⟨y, e, l⟩
    · grind
    · have := h y e; grind
  cases m' with
  | none => exact (no _ rfl fun y e => by cases e).elim
  | some y =>
    refine ⟨y, rfl, ?_⟩
    by_cases q : m - (vl a m - vl b m) / (sl a B - sl b B) < y
    · exact (no _ rfl fun z e => by cases e; exact q).elim
    · grind
theorem low_iff {t : Rat} : low a b t = true ↔ (vl a t < vl b t ∨ (vl a t = vl b t ∧ sl a t ≤ sl b t)) := by
  unfold low
  split
  · rename_i h; simp only [decide_eq_true_eq]; constructor
    · intro q; exact .inl q
    · intro q; rcases q with q | q
      · exact q
      · exact (h q.1).elim
  · rename_i h; simp only [Bool.not_eq_true', decide_eq_false_iff_not]; constructor
    · intro q; right; grind
    · intro q; rcases q with q | q <;> grind
theorem rat_inv_neg {k : Rat} (h : -k ≠ 0) : (-k)⁻¹ = -k⁻¹ := by
  have h1 := Rat.mul_inv_cancel (-k) h
  have h2 := Rat.mul_inv_cancel k (by grind)
  grind
theorem straight {D k m t X : Rat} (hX : D * k < 0 → t < X) (eX : k ≠ 0 → X = m - D / k) (ht : m < t) : (D < 0 → D + k * (t - m) < 0) ∧ (0 < D → 0 < D + k * (t - m)) := by
  have main : ∀ D k : Rat, (D * k < 0 → t < X) → (k ≠ 0 → X = m - D / k) → D < 0 → D + k * (t - m) < 0 := by
    intro D k hX eX h
    by_cases c : k ≤ 0
    · have := Rat.mul_nonneg (show (0 : Rat) ≤ -k by grind) (show (0 : Rat) ≤ t - m by grind); grind
    · have hk : 0 < k := by grind
      have h1 := hX (by have := Rat.mul_pos (show (0 : Rat) < -D by grind) hk; grind)
      rw [eX (by grind)] at h1
      have h2 := Rat.mul_lt_mul_of_pos_left (show t - m < - (D / k) by grind) hk
      have e : k * (D / k) = D := by rw [Rat.div_def]; have := Rat.mul_inv_cancel k (by grind); grind
      grind
  refine ⟨main D k hX eX, fun h => ?_⟩
  have := main (-D) (-k) (fun q => hX (by grind)) (fun q => by rw [eX (by grind)]; rw [Rat.div_def, Rat.div_def, rat_inv_neg q]; grind) (by grind)
  grind
theorem rat_mul_lt {x y : Rat} (hx : x < 0) (hy : 0 < y) : x * y < 0 := by
  have := Rat.mul_pos (show (0 : Rat) < -x by grind) hy; grind
/-- which one is lower does not change up to the next moment -/
theorem low_same (ha : Crv a.1) (hb : Crv b.1) {m t : Rat} {m' : Option Rat} (hm : m ∈ joint a b) (hl : ∀ y, m' = some y → m < y) (hx : ∀ x ∈ joint a b, x ≤ m ∨ ∃ y, m' = some y ∧ y ≤ x)
    (ht : m ≤ t) (ht2 : ∀ y, m' = some y → t < y) (va : vl a t = vl a m + sl a m * (t - m)) (sa : sl a t = sl a m) (vb : vl b t = vl b m + sl b m * (t - m)) (sb : sl b t = sl b m) : low a b t = low a b m := by
  by_cases e0 : t = m
  · rw [e0]
  have hlt : m < t := by grind
  have st := straight (D := vl a m - vl b m) (k := sl a m - sl b m) (m := m) (t := t) (X := m - (vl a m - vl b m) / (sl a m - sl b m)) (fun q => by
    obtain ⟨y, e, l⟩ := cross ha hb hm hl hx q
    have := ht2 y e; grind) (fun _ => rfl) hlt
  have ev : vl a t - vl b t = (vl a m - vl b m) + (sl a m - sl b m) * (t - m) := by rw [va, vb]; grind
  rw [Bool.eq_iff_iff, low_iff, low_iff, sa, sb]
  rcases (show vl a m - vl b m < 0 ∨ vl a m - vl b m = 0 ∨ 0 < vl a m - vl b m by grind) with c | c | c
  · have := st.1 c; constructor <;> intro _ <;> left <;> grind
  · rcases (show sl a m - sl b m < 0 ∨ sl a m - sl b m = 0 ∨ 0 < sl a m - sl b m by grind) with k | k | k
    · have := rat_mul_lt k (show 0 < t - m by grind); grind
    · grind
    · have := Rat.mul_pos k (show 0 < t - m by grind); grind
  · have := st.2 c; constructor <;> intro q <;> exfalso <;> grind
theorem pick_cases (a b : Cur) (w : Bool) (t : Rat) : pick a b w t = a ∨ pick a b w t = b := by unfold pick; split <;> simp
theorem pick_congr {w : Bool} {t m : Rat} (h : low a b t = low a b m) : pick a b w t = pick a b w m := by unfold pick; rw [h]
/-- at a moment where both are alike either one may be picked -/
theorem pick_val {w w' : Bool} {t m : Rat} (h : low a b t = low a b m ∨ vl a t = vl b t) : vl (pick a b w t) t = vl (pick a b w m) t := by
  rcases h with h | h
  · rw [pick_congr h]
  · rcases pick_cases a b w t with e | e <;> rcases pick_cases a b w m with e' | e' <;> rw [e, e'] <;> first | rfl | exact h | exact h.symm
theorem chosen_fits {w : Bool} (ha : Crv a.1) (hb : Crv b.1) {t : Rat} (ht : 0 ≤ t) : vl (chosen a b w) t = vl (pick a b w t) t ∧ sl (chosen a b w) t = sl (pick a b w t) t := by
  have J := joint_crv ha hb (chosenC a b w)
  show vl (norm _ _) t = _ ∧ sl (norm _ _) t = _
  rw [norm_vl J, norm_sl J]
  have oa : ∀ z ∈ mom a.1, z ∈ joint a b := fun z h => mem_joint.mpr (.inl (mem_once.mpr (List.mem_append_left _ h)))
  have ob : ∀ z ∈ mom b.1, z ∈ joint a b := fun z h => mem_joint.mpr (.inl (mem_once.mpr (List.mem_append_right _ h)))
  refine pts_interp (f := chosenC a b w) (g := fun t => sl (pick a b w t) t) sorted_once (joint_zero ha) (joint_nn ha hb) ht (fun m m' hm hm' hl hx => ?_) fun m hm hx => ?_
  · have m0 := joint_nn ha hb m hm
    have qa := ha.gap (s := a.2) m0 hl fun z h => hx z (oa z h)
    have qb := hb.gap (s := b.2) m0 hl fun z h => hx z (ob z h)
    have hx' : ∀ x ∈ joint a b, x ≤ m ∨ ∃ y, some m' = some y ∧ y ≤ x := fun x h => (hx x h).imp id fun e => ⟨m', rfl, e⟩
    have lows : ∀ t, m ≤ t → t < m' → low a b t = low a b m := fun t h1 h2 =>
      low_same ha hb (m' := some m') hm (fun y e => by cases e; exact hl) hx' h1 (fun y e => by cases e; exact h2) (qa.1 t h1 (by grind)) (qa.2 t h1 h2) (qb.1 t h1 (by grind)) (qb.2 t h1 h2)
    have pk : ∀ t, m ≤ t → t ≤ m' → vl (pick a b w m) t = vl (pick a b w m) m + sl (pick a b w m) m * (t - m) := fun t h1 h2 => by
      rcases pick_cases a b w m with e | e <;> rw [e]
      · exact qa.1 t h1 h2
      · exact qb.1 t h1 h2
    refine ⟨fun t h1 h2 => ?_, fun t h1 h2 => ?_⟩
    · show vl (pick a b w t) t = vl (pick a b w m) m + sl (pick a b w m) m * (t - m)
      by_cases c : t < m'
      · rw [pick_congr (lows t h1 c)]; exact pk t h1 h2
      · have e : t = m' := by grind
        rw [← pk t h1 h2]
        refine pick_val (w' := w) ?_
        by_cases z : vl a t = vl b t
        · exact .inr z
        · left
          have ev : vl a t - vl b t = (vl a m - vl b m) + (sl a m - sl b m) * (t - m) := by rw [show vl a t = _ from qa.1 t h1 h2, show vl b t = _ from qb.1 t h1 h2]; grind
          -- the sign at m' is that at m
          have st : ∀ u, m < u → u < m' → (vl a m - vl b m < 0 → (vl a m - vl b m) + (sl a m - sl b m) * (u - m) < 0) ∧ (0 < vl a m - vl b m → 0 < (vl a m - vl b m) + (sl a m - sl b m) * (u - m)) := fun u u1 u2 =>
            straight (X := m - (vl a m - vl b m) / (sl a m - sl b m)) (fun q => by
              obtain ⟨y, e, l⟩ := cross ha hb (m' := some m') hm (fun y e => by cases e; exact hl) hx' q
              cases e; grind) (fun _ => rfl) u1
          rw [Bool.eq_iff_iff, low_iff, low_iff]
          rcases (show vl a m - vl b m < 0 ∨ vl a m - vl b m = 0 ∨ 0 < vl a m - vl b m by grind) with c | c | c
          · -- below at m
            have neg : vl a t - vl b t < 0 := by
              rcases (show vl a t - vl b t < 0 ∨ 0 < vl a t - vl b t by grind) with q | q
              · exact q
              · exfalso
                have hk : sl a m - sl b m ≠ 0 := by intro z; rw [z] at ev; grind
                by_cases kp : 0 < sl a m - sl b m
                · have := cross ha hb (m' := some m') hm (fun y e => by cases e; exact hl) hx' (rat_mul_lt c kp)
                  obtain ⟨y, e2, l⟩ := this
                  cases e2
                  have h2 := Rat.mul_le_mul_of_nonneg_left (show m' - m ≤ - ((vl a m - vl b m) / (sl a m - sl b m)) by grind) (show (0 : Rat) ≤ sl a m - sl b m by grind)
                  have e3 : (sl a m - sl b m) * ((vl a m - vl b m) / (sl a m - sl b m)) = vl a m - vl b m := by rw [Rat.div_def]; have := Rat.mul_inv_cancel _ hk; grind
                  grind
                · have := Rat.mul_nonneg (show (0 : Rat) ≤ -(sl a m - sl b m) by grind) (show (0 : Rat) ≤ t - m by grind); grind
            constructor <;> intro _ <;> left <;> grind
          · rcases (show sl a m - sl b m < 0 ∨ sl a m - sl b m = 0 ∨ 0 < sl a m - sl b m by grind) with k | k | k
            · have := rat_mul_lt k (show 0 < t - m by grind); grind
            · exfalso; rw [c, k] at ev; grind
            · have := Rat.mul_pos k (show 0 < t - m by grind); grind
          · have pos : 0 < vl a t - vl b t := by
              rcases (show vl a t - vl b t < 0 ∨ 0 < vl a t - vl b t by grind) with q | q
              · exfalso
                have hk : sl a m - sl b m ≠ 0 := by intro z; rw [z] at ev; grind
                by_cases kp : sl a m - sl b m < 0
                · have := cross ha hb (m' := some m') hm (fun y e => by cases e; exact hl) hx' (by have := rat_mul_lt kp c; grind)
                  obtain ⟨y, e2, l⟩ := this
                  cases e2
                  have h2 := Rat.mul_le_mul_of_nonneg_left (show m' - m ≤ - ((vl a m - vl b m) / (sl a m - sl b m)) by grind) (show (0 : Rat) ≤ -(sl a m - sl b m) by grind)
                  have e3 : (sl a m - sl b m) * ((vl a m - vl b m) / (sl a m - sl b m)) = vl a m - vl b m := by rw [Rat.div_def]; have := Rat.mul_inv_cancel _ hk; grind
                  grind
                · have := Rat.mul_nonneg (show (0 : Rat) ≤ (sl a m - sl b m) by grind) (show (0 : Rat) ≤ t - m by grind); grind
              · exact q
            constructor <;> intro q <;> exfalso <;> grind
    · show sl (pick a b w t) t = sl (pick a b w m) m
      rw [pick_congr (lows t h1 h2)]
      rcases pick_cases a b w m with e | e <;> rw [e]
      · exact qa.2 t h1 h2
      · exact qb.2 t h1 h2
  · have m0 := joint_nn ha hb m hm
    have qa := ha.gap_end (s := a.2) m0 fun z h => hx z (oa z h)
    have qb := hb.gap_end (s := b.2) m0 fun z h => hx z (ob z h)
    have ea : sl a m = a.2 := qa.2 m (by grind)
    have eb : sl b m = b.2 := qb.2 m (by grind)
    have lows : ∀ t, m ≤ t → low a b t = low a b m := fun t h1 =>
      low_same ha hb (m' := none) hm (fun y e => by cases e) (fun x h => .inl (hx x h)) h1 (fun y e => by cases e) (by rw [ea]; exact qa.1 t h1) (by rw [ea]; exact qa.2 t h1) (by rw [eb]; exact qb.1 t h1) (by rw [eb]; exact qb.2 t h1)
    have es : chosenS a b w = sl (pick a b w m) m := by
      unfold chosenS
      have : (joint a b).getLast? = some m := by
        have s0 : SortedM (joint a b) := sorted_once
        revert hm hx s0
        generalize joint a b = l
        intro hm hx s0
        induction l with
        | nil => simp at hm
        | cons z r ih =>
          have p := List.pairwise_cons.mp s0
          cases r with
          | nil => have := List.mem_singleton.mp hm; simp [this]
          | cons y r =>
            have l1 := p.1 y List.mem_cons_self
            have : m ∈ y :: r := by
              rcases List.mem_cons.mp hm with e | e
              · have := hx y (by simp); exfalso; grind
              · exact e
            rw [List.getLast?_cons_cons]
            exact ih this (fun x h => hx x (List.mem_cons_of_mem _ h)) p.2
      rw [this]
    rw [es]
    refine ⟨fun t h1 => ?_, fun t h1 => ?_⟩
    · show vl (pick a b w t) t = vl (pick a b w m) m + sl (pick a b w m) m * (t - m)
      rw [pick_congr (lows t h1)]
      rcases pick_cases a b w m with e | e <;> rw [e]
      · rw [ea]; exact qa.1 t h1
      · rw [eb]; exact qb.1 t h1
    · show sl (pick a b w t) t = sl (pick a b w m) m
      rw [pick_congr (lows t h1)]
      rcases pick_cases a b w m with e | e <;> rw [e]
      · rw [ea]; exact qa.2 t h1
      · rw [eb]; exact qb.2 t h1
end
end Qk
end
section
namespace Qk
/-! ### the last slope of the lesser one -/
def rsel (w : Bool) (x y : Rat) : Rat := if w = true then (if y < x then y else x) else (if x < y then y else x)
theorem late (c : Cur) (h : Crv c.1) : ∃ L, 0 ≤ L ∧ ∀ x, L ≤ x → (∀ t, x ≤ t → vl c t = vl c x + c.2 * (t - x)) ∧ (∀ t, x ≤ t → sl c t = c.2) := by
  have : ∀ l : List Rat, ∃ L, 0 ≤ L ∧ ∀ m ∈ l, m ≤ L := by
    intro l
    induction l with
    | nil => exact ⟨0, by grind, by simp⟩
    | cons a r ih =>
      obtain ⟨L, h0, h1⟩ := ih
      refine ⟨if a ≤ L then L else a, by grind, fun m hm => ?_⟩
      rcases List.mem_cons.mp hm with e | e
      · grind
      · have := h1 m e; grind
  obtain ⟨L, h0, h1⟩ := this (mom c.1)
  exact ⟨L, h0, fun x hx => h.gap_end (s := c.2) (by grind) fun m hm => by have := h1 m hm; grind⟩
theorem far {D k L : Rat} (hk : 0 < k) : ∃ t, L ≤ t ∧ 0 < D + k * (t - L) := by
  refine ⟨L + (if D < 0 then -D / k else 0) + 1, ?_, ?_⟩
  · split
    · have := rat_pos_div (x := -D) (y := k) (by have := Rat.mul_pos (show (0 : Rat) < -D by grind) hk; grind); grind
    · grind
  · split
    · have e : k * (-D / k) = -D := by rw [Rat.div_def]; have := Rat.mul_inv_cancel k (by grind); grind
      grind
    · grind
theorem low_neg {a b : Cur} {t : Rat} (h : vl a t < vl b t) : low a b t = true := low_iff.mpr (.inl h)
theorem low_pos {a b : Cur} {t : Rat} (h : vl b t < vl a t) : low a b t = false := by
  cases e : low a b t with
  | false => rfl
  | true => rcases low_iff.mp e with q | q <;> grind
theorem pick_low {a b : Cur} {w : Bool} {t : Rat} (h : low a b t = w) : pick a b w t = a := if_pos h
theorem pick_not {a b : Cur} {w : Bool} {t : Rat} (h : low a b t ≠ w) : pick a b w t = b := if_neg h
theorem chosen_slope {a b : Cur} {w : Bool} (ha : Crv a.1) (hb : Crv b.1) : (chosen a b w).2 = rsel w a.2 b.2 := by
  obtain ⟨L1, p1, q1⟩ := late a ha
  obtain ⟨L2, p2, q2⟩ := late b hb
  obtain ⟨L3, p3, q3⟩ := late (chosen a b w) (chosen_told ha hb).crv
  have hL : ∃ L, L1 ≤ L ∧ L2 ≤ L ∧ L3 ≤ L := ⟨if L1 ≤ L2 then (if L2 ≤ L3 then L3 else L2) else (if L1 ≤ L3 then L3 else L1), by grind, by grind, by grind⟩
  obtain ⟨L, l1, l2, l3⟩ := hL
  have A := q1 L l1
  have B := q2 L l2
  have C := q3 L l3
  -- at any late moment the slope is the picked one's
  have key : ∀ t, L ≤ t → (chosen a b w).2 = (pick a b w t).2 := fun t ht => by
    have e := (chosen_fits (w := w) ha hb (t := t) (by grind)).2
    rw [C.2 t ht] at e
    rw [e]
    rcases pick_cases a b w t with q | q <;> rw [q]
    · exact A.2 t ht
    · exact B.2 t ht
  have dd : ∀ t, L ≤ t → vl a t - vl b t = (vl a L - vl b L) + (a.2 - b.2) * (t - L) := fun t ht => by rw [A.1 t ht, B.1 t ht]; grind
  unfold rsel
  rcases (show a.2 < b.2 ∨ a.2 = b.2 ∨ b.2 < a.2 by grind) with c | c | c
  · obtain ⟨t, ht, hp⟩ := far (D := vl b L - vl a L) (k := b.2 - a.2) (L := L) (by grind)
    have := dd t ht
    have lw : low a b t = true := low_neg (by grind)
    rw [key t ht]
    cases w with
    | true => rw [pick_low lw]; grind
    | false => rw [pick_not (by rw [lw]; decide)]; grind
  · rw [key L (by grind)]
    rcases pick_cases a b w L with q | q <;> rw [q] <;> grind
  · obtain ⟨t, ht, hp⟩ := far (D := vl a L - vl b L) (k := a.2 - b.2) (L := L) (by grind)
    have := dd t ht
    have lw : low a b t = false := low_pos (by grind)
    rw [key t ht]
    cases w with
    | true => rw [pick_not (by rw [lw]; decide)]; grind
    | false => rw [pick_low lw]; grind
theorem chosen_val {a b : Cur} {w : Bool} {t : Rat} (ha : Crv a.1) (hb : Crv b.1) (ht : 0 ≤ t) : vl (chosen a b w) t = rsel w (vl a t) (vl b t) := by
  rw [(chosen_fits ha hb ht).1]
  unfold rsel pick
  have := low_iff (a := a) (b := b) (t := t)
  cases w with
  | true =>
    cases e : low a b t with
    | true => rw [e] at this; grind
    | false => rw [e] at this; grind
  | false =>
    cases e : low a b t with
    | true => rw [e] at this; grind
    | false => rw [e] at this; grind

/-! ### folds -/
def selL (w : Bool) : List Rat → Rat
  | [] => 0
  | x :: r => (x :: r).foldl (rsel w) x
def foldC (w : Bool) : List Cur → Cur
  | [] => ([], 0)
  | c :: r => (c :: r).foldl (fun f y => chosen f y w) c
theorem fold_step {w : Bool} : ∀ (l : List Cur) (f : Cur), Told f → (∀ c ∈ l, Told c) → Told (l.foldl (fun f y => chosen f y w) f) ∧ (l.foldl (fun f y => chosen f y w) f).2 = (l.map (·.2)).foldl (rsel w) f.2 ∧
    ∀ t, 0 ≤ t → vl (l.foldl (fun f y => chosen f y w) f) t = (l.map fun c => vl c t).foldl (rsel w) (vl f t)
  | [], f, hf, _ => ⟨hf, rfl, fun _ _ => rfl⟩
  | c :: l, f, hf, h => by
    have hc := h c List.mem_cons_self
    obtain ⟨i1, i2, i3⟩ := fold_step (w := w) l (chosen f c w) (chosen_told hf.crv hc.crv) fun c hc => h c (List.mem_cons_of_mem _ hc)
    refine ⟨i1, ?_, fun t ht => ?_⟩
    · rw [List.foldl_cons, i2, chosen_slope hf.crv hc.crv]; rfl
    · rw [List.foldl_cons, i3 t ht, chosen_val hf.crv hc.crv ht]; rfl
theorem foldC_ok {w : Bool} {cs : List Cur} (h : ∀ c ∈ cs, Told c) (hn : cs ≠ []) : Told (foldC w cs) ∧ (foldC w cs).2 = selL w (cs.map (·.2)) ∧ ∀ t, 0 ≤ t → vl (foldC w cs) t = selL w (cs.map fun c => vl c t) := by
  cases cs with
  | nil => exact (hn rfl).elim
  | cons c r => exact fold_step (w := w) (c :: r) c (h c List.mem_cons_self) h

/-! ### a curve passed with more corners -/
def OnL (k : Rat) : Cor → List Cor → Prop
  | _, [] => True
  | a, p :: r => a.1 < p.1 ∧ p.2 = a.2 + k * (p.1 - a.1) ∧ OnL k p r
inductive Ref (s : Rat) : List Cor → List Cor → Prop
  | last (a : Cor) (P : List Cor) : OnL s a P → Ref s [a] (a :: P)
  | cons (a b : Cor) (r P L : List Cor) : OnL (steep a b) a P → (∀ p ∈ P, p.1 < b.1) → Ref s (b :: r) L → Ref s (a :: b :: r) (a :: (P ++ L))
theorem steep_on {a p : Cor} {k : Rat} (h : a.1 < p.1) (e : p.2 = a.2 + k * (p.1 - a.1)) : steep a p = k := by
  show (p.2 - a.2) / (p.1 - a.1) = k
  rw [e]; grind
/-- points on the line from a, then b on it too -/
theorem drop_on {k s : Rat} {b : Cor} {L : List Cor} : ∀ (P : List Cor) (a : Cor), a.1 < b.1 → b.2 = a.2 + k * (b.1 - a.1) → OnL k a P → (∀ p ∈ P, p.1 < b.1) → dropF k (P ++ b :: L) s = dropF k (b :: L) s ∧ first (a :: (P ++ b :: L)) s = k ∧ (Sorted (b :: L) → Sorted (a :: (P ++ b :: L)))
  | [], a, h, e, _, _ => ⟨rfl, steep_on h e, fun q => ⟨h, q⟩⟩
  | p :: P, a, h, e, ho, hp => by
    obtain ⟨h1, h2, h3⟩ := ho
    have hb := hp p List.mem_cons_self
    have e2 : b.2 = p.2 + k * (b.1 - p.1) := by rw [e, h2]; grind
    obtain ⟨i1, i2, i3⟩ := drop_on (L := L) (s := s) P p hb e2 h3 fun q hq => hp q (List.mem_cons_of_mem _ hq)
    refine ⟨?_, steep_on h1 h2, fun q => ⟨h1, i3 q⟩⟩
    rw [← i1]
    cases P with
    | nil => exact dropF_pos (steep_on hb e2)
    | cons p' P => exact dropF_pos (steep_on h3.1 h3.2.1)
theorem drop_end {s : Rat} : ∀ (P : List Cor) (a : Cor), OnL s a P → dropF s P s = [] ∧ first (a :: P) s = s ∧ Sorted (a :: P)
  | [], _, _ => ⟨rfl, rfl, trivial⟩
  | [p], a, h => ⟨dropF_one_pos rfl, steep_on h.1 h.2.1, ⟨h.1, trivial⟩⟩
  | p :: p' :: P, a, h => by
    obtain ⟨h1, h2, h3⟩ := h
    obtain ⟨i1, i2, i3⟩ := drop_end (p' :: P) p h3
    exact ⟨(dropF_pos (steep_on h3.1 h3.2.1)).trans i1, steep_on h1 h2, ⟨h1, i3⟩⟩
theorem ref_norm {s : Rat} {c L : List Cor} (h : Ref s c L) : Sorted c → Bends c s → ∃ a r L', c = a :: r ∧ L = a :: L' ∧ first L s = first c s ∧ dropF (first c s) L' s = r ∧ Sorted L := by
  induction h with
  | last a P ho =>
    intro _ _
    obtain ⟨i1, i2, i3⟩ := drop_end P a ho
    exact ⟨a, [], P, rfl, rfl, i2, i1, i3⟩
  | cons a b r P L ho hp hr ih =>
    intro hs hb
    obtain ⟨a', r', L', e1, e2, e3, e4, e5⟩ := ih hs.2 hb.2
    injection e1 with x1 x2
    subst x1 x2 e2
    obtain ⟨i1, i2, i3⟩ := drop_on (k := steep a b) (s := s) (b := b) (L := L') P a hs.1 (steep_line hs.1) ho hp
    refine ⟨a, b :: r, P ++ b :: L', rfl, rfl, i2, ?_, i3 e5⟩
    rw [first_cons2, i1]
    have hne : first (b :: r) s ≠ steep a b := hb.1
    cases L' with
    | nil =>
      have e6 : first [b] s = first (b :: r) s := e3
      rw [← e6] at hne
      have hne : ¬ s = steep a b := hne
      rw [dropF_one_neg hne]
      exact congrArg (List.cons b) e4
    | cons c L'' =>
      have e6 : steep b c = first (b :: r) s := e3
      rw [← e6] at hne
      rw [dropF_neg hne, e6, e4]
theorem ref_told {c : Cur} {L : List Cor} (h : Ref c.2 c.1 L) (ht : Told c) : norm L c.2 = c ∧ Crv L := by
  obtain ⟨a, r, L', e1, e2, e3, e4, e5⟩ := ref_norm h ht.crv.sorted ht.bends
  obtain ⟨c, s⟩ := c
  have e1 : c = a :: r := e1
  subst e1 e2
  constructor
  · show (a :: dropF (first (a :: L') s) L' s, s) = (a :: r, s)
    rw [e3, e4]
  · obtain ⟨⟨w, r', e⟩, _⟩ := ht.crv
    have e : a :: r = (0, w) :: r' := e
    injection e with x1 x2
    subst x1
    exact ⟨⟨w, L', rfl⟩, e5⟩
/-- built from the left -/
inductive RefN (c : List Cor) (s : Rat) : Nat → List Cor → Prop
  | zero : RefN c s 0 []
  | step (i : Nat) (F P : List Cor) (a : Cor) : RefN c s i F → c[i]? = some a → OnL (first (c.drop i) s) a P → (∀ b, c[i + 1]? = some b → ∀ p ∈ P, p.1 < b.1) → RefN c s (i + 1) (F ++ a :: P)
theorem drop_ix {α : Type} {l : List α} {i : Nat} {a : α} (h : l[i]? = some a) : l.drop i = a :: l.drop (i + 1) := by
  obtain ⟨h1, h2⟩ := List.getElem?_eq_some_iff.mp h
  rw [← h2]; exact List.drop_eq_getElem_cons h1
theorem refN_back {c : List Cor} {s : Rat} {i : Nat} {F : List Cor} (h : RefN c s i F) : ∀ L, i < c.length → Ref s (c.drop i) L → Ref s c (F ++ L) := by
  induction h with
  | zero => intro L _ h; simpa using h
  | step i F P a hF hi ho hp ih =>
    intro L hl h
    have e1 := drop_ix hi
    obtain ⟨b, hb⟩ : ∃ b, c[i + 1]? = some b := ⟨_, List.getElem?_eq_getElem hl⟩
    have e2 := drop_ix hb
    rw [List.append_assoc]
    refine ih _ (by omega) ?_
    rw [e1, e2] at ho ⊢
    rw [e2] at h
    exact .cons a b _ P L ho (hp b hb) h
theorem refN_ref {c : List Cor} {s : Rat} {F : List Cor} (h : RefN c s c.length F) (hn : c ≠ []) : Ref s c F := by
  have : ∀ n, n = c.length → RefN c s n F → Ref s c F := by
    intro n e h
    cases h with
    | zero => exact (hn (List.length_eq_zero_iff.mp e.symm)).elim
    | step i F P a hF hi ho hp =>
      have e1 := drop_ix hi
      have e2 : c.drop (i + 1) = [] := List.drop_eq_nil_of_le (by omega)
      rw [e2] at e1
      refine refN_back hF (a :: P) (by omega) ?_
      rw [e1] at ho ⊢
      exact .last a P ho
  exact this _ rfl h
end Qk
end
section
namespace Qk
/-! ### fractions in lowest terms -/
theorem low_num {n m : Int} (h : 0 < m) : ((n : Rat) / (m : Rat)).num = n / ((Nat.gcd n.natAbs m.natAbs : Nat) : Int) ∧ ((((n : Rat) / (m : Rat)).den : Nat) : Int) = m / ((Nat.gcd n.natAbs m.natAbs : Nat) : Int) := by
  rw [← Rat.divInt_eq_div, Rat.num_divInt, Rat.den_divInt]
  have e : m.sign = 1 := Int.sign_eq_one_of_pos h
  have g : m.gcd n = Nat.gcd n.natAbs m.natAbs := by rw [Int.gcd_comm]; rfl
  rw [e, g, Int.one_mul]
  refine ⟨rfl, ?_⟩
  split
  · omega
  · rw [Int.natCast_ediv]; congr 1; omega
theorem rat_eq (q : Rat) : q = (q.num : Rat) / ((q.den : Int) : Rat) := by
  rw [← Rat.divInt_eq_div, Rat.num_divInt_den]
theorem den_pos (q : Rat) : 0 < (q.den : Int) := by have := q.den_pos; omega
theorem int_ne {m : Int} (h : 0 < m) : (m : Rat) ≠ 0 := fun e => by
  have e2 : (m : Rat) = ((0 : Int) : Rat) := e
  have := Rat.intCast_inj.mp e2
  omega
/-- q as a quotient of what it is written with -/
theorem frac_of (q : Rat) : ∃ n d : Rat, n = (q.num : Rat) ∧ d = ((q.den : Int) : Rat) ∧ d ≠ 0 ∧ q = n / d := ⟨_, _, rfl, rfl, int_ne (den_pos q), rat_eq q⟩
theorem add_frac (p q : Rat) : ((p.num * (q.den : Int) + q.num * (p.den : Int) : Int) : Rat) / (((p.den : Int) * (q.den : Int) : Int) : Rat) = p + q := by
  obtain ⟨n, d, e1, e2, h, e⟩ := frac_of p
  obtain ⟨m, c, e3, e4, h2, e'⟩ := frac_of q
  rw [Rat.intCast_add, Rat.intCast_mul, Rat.intCast_mul, Rat.intCast_mul, ← e1, ← e2, ← e3, ← e4]
  grind
theorem sub_frac (p q : Rat) : ((p.num * (q.den : Int) - q.num * (p.den : Int) : Int) : Rat) / (((p.den : Int) * (q.den : Int) : Int) : Rat) = p - q := by
  obtain ⟨n, d, e1, e2, h, e⟩ := frac_of p
  obtain ⟨m, c, e3, e4, h2, e'⟩ := frac_of q
  rw [Rat.intCast_sub, Rat.intCast_mul, Rat.intCast_mul, Rat.intCast_mul, ← e1, ← e2, ← e3, ← e4]
  grind
theorem mul_frac (p q : Rat) : ((p.num * q.num : Int) : Rat) / (((p.den : Int) * (q.den : Int) : Int) : Rat) = p * q := by
  obtain ⟨n, d, e1, e2, h, e⟩ := frac_of p
  obtain ⟨m, c, e3, e4, h2, e'⟩ := frac_of q
  rw [Rat.intCast_mul, Rat.intCast_mul, ← e1, ← e2, ← e3, ← e4]
  grind
theorem num_ne {q : Rat} (h : q ≠ 0) : q.num ≠ 0 := fun e => h (Rat.num_eq_zero.mp e)
theorem div_frac (p q : Rat) (hq : q ≠ 0) : ((p.num * (q.den : Int) : Int) : Rat) / (((p.den : Int) * q.num : Int) : Rat) = p / q := by
  obtain ⟨n, d, e1, e2, h, e⟩ := frac_of p
  obtain ⟨m, c, e3, e4, h2, e'⟩ := frac_of q
  rw [Rat.intCast_mul, Rat.intCast_mul, ← e1, ← e2, ← e3, ← e4]
  have : m ≠ 0 := fun z => hq (by rw [e', z]; grind)
  rw [e, e']
  grind
theorem div_frac_neg (p q : Rat) (hq : q ≠ 0) : ((0 - p.num * (q.den : Int) : Int) : Rat) / ((0 - (p.den : Int) * q.num : Int) : Rat) = p / q := by
  obtain ⟨n, d, e1, e2, h, e⟩ := frac_of p
  obtain ⟨m, c, e3, e4, h2, e'⟩ := frac_of q
  rw [Rat.intCast_sub, Rat.intCast_sub, Rat.intCast_mul, Rat.intCast_mul, ← e1, ← e2, ← e3, ← e4]
  have : m ≠ 0 := fun z => hq (by rw [e', z]; grind)
  rw [e, e']
  have z : ((0 : Int) : Rat) = 0 := rfl
  rw [z]
  grind
theorem lt_frac (p q : Rat) : (p.num * (q.den : Int) < q.num * (p.den : Int)) ↔ p < q := (Rat.lt_iff p q).symm
theorem low_self (q : Rat) : q.num / ((Nat.gcd q.num.natAbs (q.den : Int).natAbs : Nat) : Int) = q.num ∧ (q.den : Int) / ((Nat.gcd q.num.natAbs (q.den : Int).natAbs : Nat) : Int) = q.den := by
  have e := low_num (n := q.num) (m := (q.den : Int)) (den_pos q)
  rw [← rat_eq q] at e
  exact ⟨e.1.symm, e.2.symm⟩
/-! ### sizes -/
def Sz (n : Nat) (q : Rat) : Prop := q.num.natAbs < 2 ^ n ∧ q.den < 2 ^ n
theorem Sz.mono {n m : Nat} {q : Rat} (h : Sz n q) (l : n ≤ m) : Sz m q := ⟨Nat.lt_of_lt_of_le h.1 (Nat.pow_le_pow_right (by decide) l), Nat.lt_of_lt_of_le h.2 (Nat.pow_le_pow_right (by decide) l)⟩
theorem pow_mul_lt {a b n m : Nat} (h : a < 2 ^ n) (h2 : b < 2 ^ m) : a * b < 2 ^ (n + m) := by
  rw [Nat.pow_add]; exact Nat.mul_lt_mul'' h h2
/-- a quotient is no greater than what it is written with -/
theorem sz_div {n m : Int} {a b : Nat} (h : 0 < m) (hn : n.natAbs < 2 ^ a) (hm : m.natAbs < 2 ^ b) : ((n : Rat) / (m : Rat)).num.natAbs < 2 ^ a ∧ ((n : Rat) / (m : Rat)).den < 2 ^ b := by
  obtain ⟨e1, e2⟩ := low_num (n := n) h
  constructor
  · rw [e1]
    have := Int.natAbs_ediv_le_natAbs n ((Nat.gcd n.natAbs m.natAbs : Nat) : Int)
    omega
  · have : ((((n : Rat) / (m : Rat)).den : Nat) : Int) ≤ m := by
      rw [e2]
      exact Int.ediv_le_self _ (by omega)
    omega
theorem Sz.add {a b : Nat} {p q : Rat} (hp : Sz a p) (hq : Sz b q) : Sz (a + b + 1) (p + q) := by
  rw [← add_frac]
  have h1 := pow_mul_lt hp.1 hq.2
  have h2 := pow_mul_lt hq.1 hp.2
  have h3 := pow_mul_lt hp.2 hq.2
  have d := Int.mul_pos (den_pos p) (den_pos q)
  have e : (p.num * (q.den : Int) + q.num * (p.den : Int)).natAbs < 2 ^ (a + b + 1) := by
    have := Int.natAbs_add_le (p.num * (q.den : Int)) (q.num * (p.den : Int))
    rw [Int.natAbs_mul, Int.natAbs_mul] at this
    rw [Nat.add_comm b a] at h2
    rw [Nat.pow_succ]
    have e1 : ((q.den : Int)).natAbs = q.den := rfl
    have e2 : ((p.den : Int)).natAbs = p.den := rfl
    rw [e1, e2] at this
    omega
  have e2 : ((p.den : Int) * (q.den : Int)).natAbs < 2 ^ (a + b) := by
    rw [Int.natAbs_mul]; exact h3
  have z := sz_div d e e2
  exact ⟨z.1, Nat.lt_of_lt_of_le z.2 (Nat.pow_le_pow_right (by decide) (by omega))⟩
theorem Sz.neg {a : Nat} {p : Rat} (h : Sz a p) : Sz a (-p) := by
  refine ⟨?_, ?_⟩
  · rw [Rat.neg_num, Int.natAbs_neg]; exact h.1
  · rw [Rat.neg_den]; exact h.2
theorem Sz.sub {a b : Nat} {p q : Rat} (hp : Sz a p) (hq : Sz b q) : Sz (a + b + 1) (p - q) := by
  have e : p - q = p + -q := by grind
  rw [e]; exact hp.add hq.neg
theorem Sz.mul {a b : Nat} {p q : Rat} (hp : Sz a p) (hq : Sz b q) : Sz (a + b) (p * q) := by
  rw [← mul_frac]
  have d := Int.mul_pos (den_pos p) (den_pos q)
  have z := sz_div (a := a + b) (b := a + b) d (n := p.num * q.num) (by rw [Int.natAbs_mul]; exact pow_mul_lt hp.1 hq.1) (by rw [Int.natAbs_mul]; exact pow_mul_lt hp.2 hq.2)
  exact z
theorem Sz.pos {a : Nat} {p : Rat} (h : Sz a p) : 0 < a := by
  have h1 := h.2
  have h2 := p.den_pos
  cases a with
  | zero => simp at h1; omega
  | succ n => omega
theorem Sz.div {a b : Nat} {p q : Rat} (hp : Sz a p) (hq : Sz b q) : Sz (a + b) (p / q) := by
  by_cases h0 : q = 0
  · subst h0
    have e : p / 0 = 0 := by grind
    rw [e]
    have := hp.pos
    exact ⟨by show (0 : Nat) < _; exact Nat.pow_pos (by decide), by show (1 : Nat) < _; exact Nat.one_lt_two_pow (by omega)⟩
  · have n0 := num_ne h0
    rcases Int.lt_or_gt_of_ne n0 with c | c
    · rw [← div_frac_neg p q h0]
      have d : 0 < 0 - (p.den : Int) * q.num := by have := Int.mul_pos (den_pos p) (show 0 < -q.num by omega); rw [Int.mul_neg] at this; omega
      exact sz_div d (by rw [show (0 : Int) - p.num * (q.den : Int) = -(p.num * (q.den : Int)) by omega, Int.natAbs_neg, Int.natAbs_mul]; exact pow_mul_lt hp.1 hq.2) (by rw [show (0 : Int) - (p.den : Int) * q.num = -((p.den : Int) * q.num) by omega, Int.natAbs_neg, Int.natAbs_mul]; exact pow_mul_lt hp.2 hq.1)
    · rw [← div_frac p q h0]
      have d : 0 < (p.den : Int) * q.num := Int.mul_pos (den_pos p) c
      exact sz_div d (by rw [Int.natAbs_mul]; exact pow_mul_lt hp.1 hq.2) (by rw [Int.natAbs_mul]; exact pow_mul_lt hp.2 hq.1)
end Qk
end
section
namespace Qk
/-! the program's loops, as lists -/
theorem slopes_zip (s : Rat) : ∀ c : List Cor, c ≠ [] → (c.zip (c.drop 1)).map (fun p => steep p.1 p.2) ++ [s] = slopes c s
  | [a], _ => rfl
  | a :: b :: r, _ => by
    have := slopes_zip s (b :: r) (by simp)
    simp only [List.drop_succ_cons, List.drop_zero, List.zip_cons_cons, List.map_cons, List.cons_append, slopes] at this ⊢
    rw [← this]
theorem slopes_len (s : Rat) : ∀ c : List Cor, c ≠ [] → (slopes c s).length = c.length
  | [a], _ => rfl
  | a :: b :: r, _ => by
    have := slopes_len s (b :: r) (by simp)
    simp only [slopes, List.length_cons] at this ⊢
    rw [this]
def sm : Option Rat → Rat → Bool
  | some p, q => decide (p = q)
  | none, _ => false
/-- normal's loop; p: the slope ahead -/
def kp : Option Rat → List (Cor × Rat) → List Cor
  | _, [] => []
  | p, x :: r => (bif sm p x.2 then [] else [x.1]) ++ kp (some x.2) r
/-- the slope ahead behind these -/
def ah : Option Rat → List (Cor × Rat) → Option Rat
  | p, [] => p
  | _, x :: r => ah (some x.2) r
theorem kp_snoc (x : Cor × Rat) : ∀ (l : List (Cor × Rat)) (p : Option Rat), kp p (l ++ [x]) = kp p l ++ (bif sm (ah p l) x.2 then [] else [x.1])
  | [], p => by simp [kp, ah]
  | y :: l, p => by
    have := kp_snoc x l (some y.2)
    simp only [List.cons_append, kp, ah, this, List.append_assoc]
theorem ah_snoc (x : Cor × Rat) : ∀ (l : List (Cor × Rat)) (p : Option Rat), ah p (l ++ [x]) = some x.2
  | [], p => rfl
  | y :: l, p => ah_snoc x l (some y.2)
theorem kp_drop (s : Rat) : ∀ (r : List Cor) (p : Rat), kp (some p) (r.zip (slopes r s)) = dropF p r s
  | [], p => rfl
  | [b], p => by
    show (bif decide (p = s) then [] else [b]) ++ [] = dropF p [b] s
    unfold dropF
    by_cases h : s = p
    · rw [if_pos h, decide_eq_true h.symm]; rfl
    · rw [if_neg h, decide_eq_false (fun z => h z.symm)]; rfl
  | b :: c :: r, p => by
    have := kp_drop s (c :: r) (steep b c)
    show (bif decide (p = steep b c) then [] else [b]) ++ kp (some (steep b c)) ((c :: r).zip (slopes (c :: r) s)) = dropF p (b :: c :: r) s
    rw [this]
    by_cases h : steep b c = p
    · rw [dropF_pos h, decide_eq_true h.symm, h]; rfl
    · rw [dropF_neg h, decide_eq_false (fun z => h z.symm)]; rfl
theorem kp_norm {c : List Cor} {s : Rat} : kp none (c.zip (slopes c s)) = normC c s := by
  cases c with
  | nil => rfl
  | cons a r =>
    cases r with
    | nil => rfl
    | cons b r =>
      have := kp_drop s (b :: r) (steep a b)
      show [a] ++ kp (some (steep a b)) ((b :: r).zip (slopes (b :: r) s)) = normC (a :: b :: r) s
      rw [this]; rfl
/-- the last corner not behind t -/
def place : List Cor → Rat → Nat
  | a :: b :: r, t => if t < b.1 then 0 else place (b :: r) t + 1
  | _, _ => 0
theorem place_lt (t : Rat) : ∀ c : List Cor, c ≠ [] → place c t < c.length
  | [a], _ => by simp [place]
  | a :: b :: r, _ => by
    unfold place
    split
    · simp
    · have := place_lt t (b :: r) (by simp)
      simp only [List.length_cons] at this ⊢
      omega
theorem place_val (s t : Rat) : ∀ c : List Cor, c ≠ [] → ∃ a k, c[place c t]? = some a ∧ (slopes c s)[place c t]? = some k ∧ val c s t = a.2 + k * (t - a.1) ∧ slp c s t = k
  | [a], _ => ⟨a, s, rfl, rfl, rfl, rfl⟩
  | a :: b :: r, _ => by
    by_cases h : t < b.1
    · exact ⟨a, steep a b, by simp [place, h], by simp [place, h, slopes], by simp [val, h], by simp [slp, h]⟩
    · obtain ⟨k, q, h1, h2, h3, h4⟩ := place_val s t (b :: r) (by simp)
      exact ⟨k, q, by simp [place, h, h1], by simp [place, h, slopes, h2], by simp [val, h, h3], by simp [slp, h, h4]⟩
/-- place_at's loop: the last place at which the corner is not behind t -/
def lastAt (t : Rat) : Nat → Nat → List Cor → Nat
  | _, f, [] => f
  | i, f, a :: r => lastAt t (i + 1) (if t < a.1 then f else i) r
theorem lastAt_snoc (t : Rat) (x : Cor) : ∀ (l : List Cor) (i f : Nat), lastAt t i f (l ++ [x]) = if t < x.1 then lastAt t i f l else i + l.length
  | [], i, f => by simp [lastAt]
  | a :: l, i, f => by
    have := lastAt_snoc t x l (i + 1) (if t < a.1 then f else i)
    simp only [List.cons_append, lastAt, this, List.length_cons]
    split <;> omega
theorem lastAt_none {t : Rat} : ∀ (l : List Cor) (i f : Nat), (∀ k ∈ l, t < k.1) → lastAt t i f l = f
  | [], _, _, _ => rfl
  | a :: l, i, f, h => by
    unfold lastAt
    rw [if_pos (h a (by simp))]
    exact lastAt_none l (i + 1) f fun k hk => h k (by simp [hk])
theorem sorted_gt {t : Rat} : ∀ {r : List Cor} {a : Cor}, Sorted (a :: r) → t < a.1 → ∀ k ∈ a :: r, t < k.1
  | [], a, _, h, k, hk => by simp at hk; rw [hk]; exact h
  | b :: r, a, hs, h, k, hk => by
    rcases List.mem_cons.mp hk with e | e
    · rw [e]; exact h
    · exact sorted_gt hs.2 (lt_tr h hs.1) k e
theorem lastAt_place {t : Rat} : ∀ {r : List Cor} {a : Cor} (i f : Nat), Sorted (a :: r) → a.1 ≤ t → lastAt t i f (a :: r) = i + place (a :: r) t
  | [], a, i, f, _, h => by
    have : ¬ t < a.1 := by grind
    simp [lastAt, place, this]
  | b :: r, a, i, f, hs, h => by
    have h1 : ¬ t < a.1 := by grind
    show lastAt t (i + 1) (if t < a.1 then f else i) (b :: r) = i + place (a :: b :: r) t
    rw [if_neg h1]
    by_cases h2 : t < b.1
    · rw [lastAt_none _ _ _ (sorted_gt hs.2 h2)]
      simp [place, h2]
    · rw [lastAt_place (i + 1) i hs.2 (by grind)]
      simp only [place, if_neg h2]; omega
end Qk
end
section
namespace Qk
/-- dedupe, the first of each -/
def uq (l : List Rat) : List Rat := l.foldl (fun acc q => if q ∈ acc then acc else acc ++ [q]) []
theorem uq_snoc (l : List Rat) (q : Rat) : uq (l ++ [q]) = if q ∈ uq l then uq l else uq l ++ [q] := by unfold uq; simp
theorem uq_ok : ∀ l : List Rat, (uq l).Nodup ∧ (∀ q, q ∈ uq l ↔ q ∈ l) ∧ (uq l).length ≤ l.length := by
  intro l
  have : ∀ r : List Rat, (uq r.reverse).Nodup ∧ (∀ q, q ∈ uq r.reverse ↔ q ∈ r.reverse) ∧ (uq r.reverse).length ≤ r.reverse.length := by
    intro r
    induction r with
    | nil => simp [uq]
    | cons a r ih =>
      rw [List.reverse_cons, uq_snoc]
      obtain ⟨h1, h2, h3⟩ := ih
      by_cases h : a ∈ uq r.reverse
      · rw [if_pos h]
        refine ⟨h1, fun q => ?_, by simp at h3 ⊢; omega⟩
        rw [h2 q, List.mem_append, List.mem_singleton]
        exact ⟨.inl, fun z => z.elim id fun e => by rw [e]; exact (h2 a).mp h⟩
      · rw [if_neg h]
        refine ⟨?_, fun q => ?_, by simp at h3 ⊢; omega⟩
        · rw [List.nodup_append]
          exact ⟨h1, by simp, fun x hx y hy => by
            have : y = a := by simpa using hy
            rw [this]; intro z; rw [z] at hx; exact h hx⟩
        · rw [List.mem_append, List.mem_append, h2 q]
  have := this l.reverse
  rwa [List.reverse_reverse] at this
theorem filter_none {t : Rat} : ∀ l : List Cor, (∀ k ∈ l, t < k.1) → (l.filter fun k => !decide (t < k.1)) = []
  | [], _ => rfl
  | a :: l, h => by
    rw [List.filter_cons_of_neg (by simp [h a (by simp)])]
    exact filter_none l fun k hk => h k (by simp [hk])
theorem filter_place {t : Rat} : ∀ {r : List Cor} {a : Cor}, Sorted (a :: r) → a.1 ≤ t → ((a :: r).filter fun k => !decide (t < k.1)).length = place (a :: r) t + 1
  | [], a, _, h => by
    have : ¬ t < a.1 := by grind
    simp [place, this]
  | b :: r, a, hs, h => by
    have h1 : ¬ t < a.1 := by grind
    rw [List.filter_cons_of_pos (by simp [h1])]
    by_cases h2 : t < b.1
    · rw [filter_none _ (sorted_gt hs.2 h2)]
      simp [place, h2]
    · have := filter_place hs.2 (by grind : b.1 ≤ t)
      rw [List.length_cons, this]
      simp [place, h2]
theorem slp_last (s t : Rat) : ∀ c : List Cor, c ≠ [] → place c t + 1 = c.length → slp c s t = s
  | [a], _, _ => rfl
  | a :: b :: r, _, h => by
    by_cases h1 : t < b.1
    · simp [place, h1] at h
    · simp only [place, if_neg h1, List.length_cons] at h
      have := slp_last s t (b :: r) (by simp) (by simp only [List.length_cons]; omega)
      simp only [slp, if_neg h1]; exact this
theorem slp_mid (s t : Rat) : ∀ c : List Cor, place c t + 1 < c.length → ∃ a b, c[place c t]? = some a ∧ c[place c t + 1]? = some b ∧ slp c s t = steep a b
  | [], h => by simp at h
  | [a], h => by simp [place] at h
  | a :: b :: r, h => by
    by_cases h1 : t < b.1
    · exact ⟨a, b, by simp [place, h1], by simp [place, h1], by simp [slp, h1]⟩
    · simp only [place, if_neg h1, List.length_cons] at h
      obtain ⟨x, y, e1, e2, e3⟩ := slp_mid s t (b :: r) (by simp only [List.length_cons]; omega)
      exact ⟨x, y, by simp [place, h1, e1], by simpa [place, h1] using e2, by simp [slp, h1, e3]⟩
/-- a corner with its slope, by its place -/
def pr (sl : List Rat) (p : Cor × Nat) : Cor × Rat := (p.1, sl.getD p.2 0)
theorem zip_pr : ∀ (c : List Cor) (sl : List Rat) (n : Nat), c.length + n ≤ sl.length → (c.zipIdx n).map (pr sl) = c.zip (sl.drop n)
  | [], _, _, _ => by simp
  | a :: c, sl, n, h => by
    have hn : n < sl.length := by simp at h; omega
    rw [List.zipIdx_cons, List.map_cons, zip_pr c sl (n + 1) (by simp at h; omega), ← List.getElem_cons_drop hn, List.zip_cons_cons]
    simp [pr, List.getD, hn]
theorem kp_zipIdx {c : List Cor} {s : Rat} (h : c ≠ []) : kp none (c.zipIdx.map (pr (slopes c s))) = normC c s := by
  rw [zip_pr c _ 0 (by rw [slopes_len s c h]; simp), List.drop_zero, kp_norm]
end Qk
end
section
set_option maxHeartbeats 4000000
/-! Readings by data: what is known of the slots (Cxt), of one's own lists (Own), what an expression gives (HasE), what a block does (HasS). -/
namespace Q6
open PySem PySem.Spec PyProof.Rows L2 LamX
/-- the fragment, the tables that stand, the stream's two lists (or none) -/
structure Cf where
  K : PySem.W.Frag
  T : List (Addr × Str)
  S : List Addr
/-! ### heaps -/
/-- a heap without what is one's own -/
def hide (M : List Addr) (H : Hp) : Hp := fun a => if a ∈ M then none else H a
theorem hide_in {M : List Addr} {H : Hp} {a : Addr} (h : a ∈ M) : hide M H a = none := if_pos h
theorem hide_out {M : List Addr} {H : Hp} {a : Addr} (h : a ∉ M) : hide M H a = H a := if_neg h
theorem hide_some {M : List Addr} {H : Hp} {a : Addr} {o : HO} (h : hide M H a = some o) : a ∉ M ∧ H a = some o := by
  by_cases q : a ∈ M
  · rw [hide_in q] at h; cases h
  · rw [hide_out q] at h; exact ⟨q, h⟩
theorem hide_ext {M N : List Addr} {H H' : Hp} (h : ∀ b o, b ∉ M → H b = some o → (∀ ps, o ≠ .tbl ps) → b ∉ N ∧ H' b = some o) : ExtN (hide M H) (hide N H') := fun b o e n => by
  obtain ⟨h1, h2⟩ := hide_some e
  obtain ⟨h3, h4⟩ := h b o h1 h2 n
  rw [hide_out h3]; exact h4
/-- data that are not hidden are there -/
theorem ext_sub {M : List Addr} {H : Hp} : ExtN (hide M H) H := fun b o e _ => (hide_some e).2
theorem ext_more {M N : List Addr} {H : Hp} (h : ∀ a ∈ N, a ∈ M) : ExtN (hide M H) (hide N H) := hide_ext fun b o n e _ => ⟨fun z => n (h b z), e⟩
/-- the heap grows; only what stands in S may change -/
structure go (C : Cf) (H H' : Hp) : Prop where
  keep : ExtN (hide C.S H) (hide C.S H')
  tabs : Tabs C.T H → Tabs C.T H'
theorem go.refl {C : Cf} (H : Hp) : go C H H := ⟨ExtN.refl _, id⟩
theorem go.trans {C : Cf} {H H1 H2 : Hp} (a : go C H H1) (b : go C H1 H2) : go C H H2 := ⟨a.keep.trans b.keep, fun t => b.tabs (a.tabs t)⟩
theorem go.at {C : Cf} {H H' : Hp} (g : go C H H') {b : Addr} {o : HO} (n : b ∉ C.S) (e : H b = some o) (t : ∀ ps, o ≠ .tbl ps) : H' b = some o := by
  have := g.keep b o (by rw [hide_out n]; exact e) t
  exact (hide_some this).2
theorem go.new {C : Cf} {H : Hp} {p : Addr} {o : HO} (h : H p = none) : go C H (upd H p o) := by
  have k : ∀ b u, H b = some u → upd H p o b = some u := fun b u e => by rw [upd_ne (ne_of_none e h)]; exact e
  exact ⟨hide_ext fun b u n e _ => ⟨n, k b u e⟩, fun t => t.ext k⟩
/-- nothing but a table stood there -/
def NewAt (H : Hp) (a : Addr) : Prop := ∀ o, H a = some o → ∃ ps, o = .tbl ps
theorem NewAt.of {H : Hp} {a : Addr} (h : H a = none) : NewAt H a := fun o e => by rw [h] at e; cases e
/-! ### what is one's own -/
/-- the stream: its list, its ints; k more draws may come -/
def StrOk (S : List Addr) (k : Nat) (H : Hp) : Prop := S = [] ∨ ∃ (s l : Addr) (ns : List Int) (sp ct mx : Int), S = [s, l] ∧ s ≠ l ∧ H s = some (.lst [.ref l, .int sp, .int ct, .int mx]) ∧ H l = some (.lst (ns.map V.int)) ∧
  0 ≤ sp ∧ 0 ≤ ct ∧ ct + k ≤ 2 ^ 40 ∧ 0 ≤ mx ∧ mx < 2 ^ 31 ∧ ns.length ≤ 100000
theorem StrOk.le {S : List Addr} {j k : Nat} {H : Hp} (h : StrOk S k H) (l : j ≤ k) : StrOk S j H := by
  rcases h with h | ⟨s, l', ns, sp, ct, mx, h1, h2, h3, h4, h5, h6, h7, h8⟩
  · exact .inl h
  · exact .inr ⟨s, l', ns, sp, ct, mx, h1, h2, h3, h4, h5, h6, by omega, h8⟩
structure Ok (C : Cf) (k : Nat) (M : List Addr) (H : Hp) : Prop where
  dom : ∀ a ∈ M, ∃ xs, H a = some (.lst xs)
  tabs : Tabs C.T H
  sub : ∀ a ∈ C.S, a ∈ M
  str : StrOk C.S k H
theorem Ok.le {C : Cf} {j k : Nat} {M : List Addr} {H : Hp} (h : Ok C k M H) (l : j ≤ k) : Ok C j M H := ⟨h.dom, h.tabs, h.sub, h.str.le l⟩
theorem Ok.out {C : Cf} {k : Nat} {M : List Addr} {H : Hp} {p : Addr} (d : Ok C k M H) (h : H p = none) : p ∉ M := fun z => by
  obtain ⟨xs, e⟩ := d.dom p z
  rw [h] at e; cases e
theorem Ok.cons {C : Cf} {k : Nat} {M : List Addr} {H : Hp} {l : Addr} {xs : List V} (d : Ok C k M H) (h : H l = some (.lst xs)) : Ok C k (l :: M) H := ⟨fun a ha => by
  rcases List.mem_cons.mp ha with e | e
  · rw [e]; exact ⟨xs, h⟩
  · exact d.dom a e, d.tabs, fun a ha => List.mem_cons_of_mem _ (d.sub a ha), d.str⟩
theorem Ok.new {C : Cf} {k : Nat} {M : List Addr} {H : Hp} {p : Addr} {o : HO} (d : Ok C k M H) (h : H p = none) : Ok C k M (upd H p o) := by
  have e : ∀ b u, H b = some u → upd H p o b = some u := fun b u e => by rw [upd_ne (ne_of_none e h)]; exact e
  refine ⟨fun a ha => ?_, (go.new (C := C) h).tabs d.tabs, d.sub, ?_⟩
  · obtain ⟨xs, q⟩ := d.dom a ha
    exact ⟨xs, e a _ q⟩
  · rcases d.str with h | ⟨s, l', ns, sp, ct, mx, h1, h2, h3, h4, h5⟩
    · exact .inl h
    · exact .inr ⟨s, l', ns, sp, ct, mx, h1, h2, e _ _ h3, e _ _ h4, h5⟩
/-- own lists change their place or their items, no others -/
theorem Ok.upd {C : Cf} {k : Nat} {M : List Addr} {H : Hp} {l : Addr} {xs ys : List V} (d : Ok C k M H) (h : H l = some (.lst xs)) (n : l ∉ C.S) : Ok C k M (upd H l (.lst ys)) := by
  refine ⟨fun a ha => ?_, fun p hp => ?_, d.sub, ?_⟩
  · by_cases q : a = l
    · exact ⟨ys, by rw [q]; exact upd_same⟩
    · rw [upd_ne q]; exact d.dom a ha
  · obtain ⟨ps, h1, h2, h3⟩ := d.tabs p hp
    refine ⟨ps, by rw [upd_ne fun z => by rw [z, h] at h1; cases h1]; exact h1, h2, fun pos cv hc => ?_⟩
    obtain ⟨c, e1, e2⟩ := h3 pos cv hc
    refine ⟨c, e1, ?_⟩
    rw [upd_ne fun z => by rw [z, h] at e2; cases e2]
    exact e2
  · rcases d.str with h | ⟨s, l', ns, sp, ct, mx, h1, h2, h3, h4, h5⟩
    · exact .inl h
    · refine .inr ⟨s, l', ns, sp, ct, mx, h1, h2, ?_, ?_, h5⟩
      · rw [upd_ne fun z => n (by rw [← z, h1]; simp)]; exact h3
      · rw [upd_ne fun z => n (by rw [← z, h1]; simp)]; exact h4
theorem hide_upd {M : List Addr} {H : Hp} {l : Addr} {o : HO} (h : l ∈ M) : hide M (upd H l o) = hide M H := by
  funext b
  by_cases q : b ∈ M
  · rw [hide_in q, hide_in q]
  · rw [hide_out q, hide_out q, upd_ne fun z => q (by rw [z]; exact h)]
theorem go.k {C : Cf} {k : Nat} {M : List Addr} {H H' : Hp} (g : go C H H') (d : Ok C k M H) : ExtN (hide M H) (hide M H') := hide_ext fun b o n e t => ⟨n, g.at (fun z => n (d.sub b z)) e t⟩
/-! ### data: None, bools, ints, texts, lists, tuples; {} ; the def _law_odd ; the stream -/
/-- how the def _law_odd is told -/
def fnD : PyData := .dict [(.none, .none)]
/-- how a def of the module is told -/
def gloD (x : Str) : PyData := .dict [(.str x, .none)]
/-- how the stream is told -/
def strD : PyData := .dict [(.bool true, .none)]
mutual
inductive Dq (C : Cf) (H : Hp) : V → PyData → Prop
  | non : Dq C H .non .none
  | bl (b : Bool) : Dq C H (.bl b) (.bool b)
  | int (i : Int) : Dq C H (.int i) (.int i)
  | str (x : Str) : Dq C H (.str x) (.str x)
  | lst {a : Addr} {xs : List V} {ds : List PyData} : H a = some (.lst xs) → DqAll C H xs ds → Dq C H (.ref a) (.list ds)
  | tup {a : Addr} {xs : List V} {ds : List PyData} : H a = some (.tup xs) → DqAll C H xs ds → Dq C H (.ref a) (.tuple ds)
  | emp {a : Addr} : H a = some (.dK []) → Dq C H (.ref a) (.dict [])
  | fn : Dq C H (.ref (He.ga C.K "_law_odd")) (.dict [(.none, .none)])
  | strm {s l : Addr} : C.S = [s, l] → Dq C H (.ref s) (.dict [(.bool true, .none)])
  | glo (x : Str) : Dq C H (.ref (He.ga C.K x)) (.dict [(.str x, .none)])
inductive DqAll (C : Cf) (H : Hp) : List V → List PyData → Prop
  | nil : DqAll C H [] []
  | cons {v : V} {vs : List V} {d : PyData} {ds : List PyData} : Dq C H v d → DqAll C H vs ds → DqAll C H (v :: vs) (d :: ds)
end
mutual
/-- without dicts -/
def noDict : PyData → Bool
  | .list ds => noDictAll ds
  | .tuple ds => noDictAll ds
  | .dict _ => false
  | _ => true
def noDictAll : List PyData → Bool
  | [] => true
  | d :: ds => noDict d && noDictAll ds
end
section
variable {C : Cf} {H H' : Hp}
theorem sqL_of {K : PySem.W.Frag} {a : Addr} {xs : List V} (h : H a = some (.lst xs)) : SqL K H a xs := .inl (.inl h)
theorem sqT_of {K : PySem.W.Frag} {a : Addr} {xs : List V} (h : H a = some (.tup xs)) : SqT K H a xs := .inl (.inl h)
mutual
theorem Dq.dp : ∀ {v : V} {d : PyData}, Dq C H v d → noDict d = true → Dp C.K H v d
  | _, _, .non, _ => .non
  | _, _, .bl b, _ => .bl b
  | _, _, .int i, _ => .int i
  | _, _, .str s, _ => .str s
  | _, _, .lst h r, n => .lst (sqL_of h) (Dq.dpA r (by simpa [noDict] using n))
  | _, _, .tup h r, n => .tup (sqT_of h) (Dq.dpA r (by simpa [noDict] using n))
theorem Dq.dpA : ∀ {vs : List V} {ds : List PyData}, DqAll C H vs ds → noDictAll ds = true → DpAll C.K H vs ds
  | _, _, .nil, _ => .nil
  | _, _, .cons h r, n => by
    simp only [noDictAll, Bool.and_eq_true] at n
    exact .cons (Dq.dp h n.1) (Dq.dpA r n.2)
end
mutual
theorem Dq.ext (x : ExtN H H') : ∀ {v : V} {d : PyData}, Dq C H v d → Dq C H' v d
  | _, _, .non => .non
  | _, _, .bl b => .bl b
  | _, _, .int i => .int i
  | _, _, .str s => .str s
  | _, _, .lst h r => .lst (x _ _ h fun ps z => by cases z) (DqAll.ext x r)
  | _, _, .tup h r => .tup (x _ _ h fun ps z => by cases z) (DqAll.ext x r)
  | _, _, .emp h => .emp (x _ _ h fun ps z => by cases z)
  | _, _, .fn => .fn
  | _, _, .strm h => .strm h
  | _, _, .glo x => .glo x
theorem DqAll.ext (x : ExtN H H') : ∀ {vs : List V} {ds : List PyData}, DqAll C H vs ds → DqAll C H' vs ds
  | _, _, .nil => .nil
  | _, _, .cons h r => .cons (Dq.ext x h) (DqAll.ext x r)
end
theorem dA_len : ∀ {vs : List V} {ds : List PyData}, DqAll C H vs ds → vs.length = ds.length
  | _, _, .nil => rfl
  | _, _, .cons _ r => congrArg Nat.succ (dA_len r)
theorem dA_got : ∀ {vs : List V} {ds : List PyData} {i : Nat} {d : PyData}, DqAll C H vs ds → ds[i]? = some d → ∃ v, vs[i]? = some v ∧ Dq C H v d
  | _, _, _, _, .nil, e => by simp at e
  | _, _, 0, _, .cons h _, e => by simp at e; subst e; exact ⟨_, rfl, h⟩
  | _, _, i + 1, v, .cons _ r, e => by
    obtain ⟨d, h1, h2⟩ := dA_got (i := i) (d := v) r (by simpa using e)
    exact ⟨d, by simpa using h1, h2⟩
theorem dA_get : ∀ {vs : List V} {ds : List PyData} {i : Nat} {v : V}, DqAll C H vs ds → vs[i]? = some v → ∃ d, ds[i]? = some d ∧ Dq C H v d
  | _, _, _, _, .nil, e => by simp at e
  | _, _, 0, _, .cons h _, e => by simp at e; subst e; exact ⟨_, rfl, h⟩
  | _, _, i + 1, v, .cons _ r, e => by
    obtain ⟨d, h1, h2⟩ := dA_get (i := i) (v := v) r (by simpa using e)
    exact ⟨d, by simpa using h1, h2⟩
theorem dA_app : ∀ {vs ws : List V} {ds es : List PyData}, DqAll C H vs ds → DqAll C H ws es → DqAll C H (vs ++ ws) (ds ++ es)
  | _, _, _, _, .nil, s => s
  | _, _, _, _, .cons h r, s => .cons h (dA_app r s)
theorem dA_one {v : V} {d : PyData} (h : Dq C H v d) : DqAll C H [v] [d] := .cons h .nil
theorem dA_take : ∀ {vs : List V} {ds : List PyData} (n : Nat), DqAll C H vs ds → DqAll C H (vs.take n) (ds.take n)
  | _, _, 0, _ => .nil
  | _, _, _ + 1, .nil => .nil
  | _, _, n + 1, .cons h r => .cons h (dA_take n r)
theorem dA_drop : ∀ {vs : List V} {ds : List PyData} (n : Nat), DqAll C H vs ds → DqAll C H (vs.drop n) (ds.drop n)
  | _, _, 0, r => r
  | _, _, _ + 1, .nil => .nil
  | _, _, n + 1, .cons _ r => dA_drop n r
theorem dA_set : ∀ {vs : List V} {ds : List PyData} (n : Nat) {v : V} {d : PyData}, DqAll C H vs ds → Dq C H v d → DqAll C H (vs.set n v) (ds.set n d)
  | _, _, 0, _, _, .cons _ r, h => .cons h r
  | _, _, _ + 1, _, _, .nil, _ => .nil
  | _, _, 0, _, _, .nil, _ => .nil
  | _, _, n + 1, _, _, .cons q r, h => .cons q (dA_set n r h)
theorem d_int {x : V} {i : Int} (h : Dq C H x (.int i)) : x = .int i := by cases h; rfl
theorem d_bl {x : V} {b : Bool} (h : Dq C H x (.bool b)) : x = .bl b := by cases h; rfl
theorem d_non {x : V} (h : Dq C H x .none) : x = .non := by cases h; rfl
theorem d_str {x : V} {z : Str} (h : Dq C H x (.str z)) : x = .str z := by cases h; rfl
/-- a list's or a tuple's items -/
def seqD : PyData → Option (List PyData)
  | .list ds => some ds
  | .tuple ds => some ds
  | _ => none
theorem d_seq {x : V} {d : PyData} {ds : List PyData} (h : Dq C H x d) (e : seqD d = some ds) : ∃ p xs, x = .ref p ∧ (H p = some (.lst xs) ∨ H p = some (.tup xs)) ∧ DqAll C H xs ds := by
  cases h with
  | lst h r => cases e; exact ⟨_, _, rfl, .inl h, r⟩
  | tup h r => cases e; exact ⟨_, _, rfl, .inr h, r⟩
  | _ => cases e
theorem d_lst {x : V} {ds : List PyData} (h : Dq C H x (.list ds)) : ∃ p xs, x = .ref p ∧ H p = some (.lst xs) ∧ DqAll C H xs ds := by
  cases h with
  | lst h r => exact ⟨_, _, rfl, h, r⟩
theorem d_tup {x : V} {ds : List PyData} (h : Dq C H x (.tuple ds)) : ∃ p xs, x = .ref p ∧ H p = some (.tup xs) ∧ DqAll C H xs ds := by
  cases h with
  | tup h r => exact ⟨_, _, rfl, h, r⟩
end
/-! ### types and contexts -/
structure Ty where
  p : V → Hp → Prop
  mono : ∀ {v : V} {H H' : Hp}, ExtN H H' → p v H → p v H'
def tyD (C : Cf) (d : PyData) : Ty := ⟨fun v H => Dq C H v d, fun x h => h.ext x⟩
/-- some datum of a kind -/
def tyP (C : Cf) (P : PyData → Prop) : Ty := ⟨fun v H => ∃ d, P d ∧ Dq C H v d, fun x ⟨d, h1, h2⟩ => ⟨d, h1, h2.ext x⟩⟩
/-- a value as it is -/
def tyV (v : V) : Ty := ⟨fun x _ => x = v, fun _ h => h⟩
abbrev Cxt := List (Option Ty)
def Sat (Γ : Cxt) (σ : L2.St) (H : Hp) : Prop := Γ.length = σ.length ∧ ∀ (i : Nat) (τ : Ty), Γ[i]? = some (some τ) → ∃ v, σ[i]? = some (some v) ∧ τ.p v H
theorem Sat.ext {Γ : Cxt} {σ : L2.St} {H H' : Hp} (s : Sat Γ σ H) (x : ExtN H H') : Sat Γ σ H' := ⟨s.1, fun i τ e => by
  obtain ⟨v, h1, h2⟩ := s.2 i τ e
  exact ⟨v, h1, τ.mono x h2⟩⟩
theorem Sat.set {Γ : Cxt} {σ : L2.St} {H : Hp} {i : Nat} {v : V} {τ : Ty} (s : Sat Γ σ H) (h : τ.p v H) : Sat (Γ.set i (some τ)) (σ.set i (some v)) H := ⟨by simp [s.1], fun j τ' e => by
  by_cases q : i = j
  · subst q
    have hl : i < Γ.length := by
      rcases Nat.lt_or_ge i Γ.length with z | z
      · exact z
      · rw [List.getElem?_eq_none (by simpa using z)] at e; cases e
    rw [List.getElem?_set_self hl] at e
    cases e
    exact ⟨v, List.getElem?_set_self (by rw [← s.1]; exact hl), h⟩
  · rw [List.getElem?_set_ne q] at e ⊢
    exact s.2 j τ' e⟩
theorem Sat.forget {Γ : Cxt} {σ : L2.St} {H : Hp} {i : Nat} {x : Option V} (s : Sat Γ σ H) : Sat (Γ.set i none) (σ.set i x) H := ⟨by simp [s.1], fun j τ' e => by
  by_cases q : i = j
  · subst q
    rcases Nat.lt_or_ge i Γ.length with z | z
    · rw [List.getElem?_set_self z] at e; cases e
    · rw [List.getElem?_eq_none (by simpa using z)] at e; cases e
  · rw [List.getElem?_set_ne q] at e ⊢
    exact s.2 j τ' e⟩
/-- less is known -/
inductive Wk : Cxt → Cxt → Prop
  | nil : Wk [] []
  | drop {Γ Δ : Cxt} {a : Option Ty} : Wk Γ Δ → Wk (a :: Γ) (none :: Δ)
  | same {Γ Δ : Cxt} {a : Option Ty} : Wk Γ Δ → Wk (a :: Γ) (a :: Δ)
  | sub {Γ Δ : Cxt} {s t : Ty} : (∀ v H, s.p v H → t.p v H) → Wk Γ Δ → Wk (some s :: Γ) (some t :: Δ)
theorem Wk.refl : ∀ Γ : Cxt, Wk Γ Γ
  | [] => .nil
  | _ :: Γ => .same (Wk.refl Γ)
theorem Wk.len {Γ Δ : Cxt} (w : Wk Γ Δ) : Δ.length = Γ.length := by
  induction w with
  | nil => rfl
  | drop _ ih => simp [ih]
  | same _ ih => simp [ih]
  | sub _ _ ih => simp [ih]
theorem Wk.get {Γ Δ : Cxt} (w : Wk Γ Δ) : ∀ {i : Nat} {t : Ty}, Δ[i]? = some (some t) → ∃ s, Γ[i]? = some (some s) ∧ ∀ v H, s.p v H → t.p v H := by
  induction w with
  | nil => intro i t e; simp at e
  | drop _ ih =>
    intro i t e
    cases i with
    | zero => simp at e
    | succ i => simpa using ih (i := i) (t := t) (by simpa using e)
  | @same Γ Δ a _ ih =>
    intro i t e
    cases i with
    | zero => simp at e; subst e; exact ⟨t, by simp, fun _ _ h => h⟩
    | succ i => simpa using ih (i := i) (t := t) (by simpa using e)
  | sub h _ ih =>
    intro i t e
    cases i with
    | zero => simp at e; subst e; exact ⟨_, by simp, h⟩
    | succ i => simpa using ih (i := i) (t := t) (by simpa using e)
theorem Sat.wk {Γ Δ : Cxt} {σ : L2.St} {H : Hp} (s : Sat Γ σ H) (w : Wk Γ Δ) : Sat Δ σ H := ⟨w.len.trans s.1, fun i τ e => by
  obtain ⟨t, h1, h2⟩ := w.get e
  obtain ⟨v, h3, h4⟩ := s.2 i t h1
  exact ⟨v, h3, h2 _ _ h4⟩⟩
/-- something more is known of a slot's value -/
theorem Sat.put {Γ : Cxt} {σ : L2.St} {H : Hp} {i : Nat} {v : V} {τ : Ty} (s : Sat Γ σ H) (e : σ[i]? = some (some v)) (h : τ.p v H) : Sat (Γ.set i (some τ)) σ H := by
  have := s.set (i := i) h
  rwa [show σ.set i (some v) = σ from by
    apply List.ext_getElem?
    intro j
    by_cases q : i = j
    · subst q
      have hl : i < σ.length := by
        rcases Nat.lt_or_ge i σ.length with z | z
        · exact z
        · rw [List.getElem?_eq_none z] at e; cases e
      rw [List.getElem?_set_self hl, e]
    · rw [List.getElem?_set_ne q]] at this
/-! ### what an expression gives; c: how many draws it may take -/
section
variable (C : Cf) (c : Nat)
def HasE (te : TE) (Γ : Cxt) (τ : Ty) : Prop := ∀ (M : List Addr) (k : Nat) (σ : L2.St) (H : Hp) (Q : VK), Ok C (k + c) M H → Sat Γ σ (hide M H) → (∀ v H', go C H H' → Ok C k M H' → τ.p v (hide M H') → Q v H') → te σ H Q
def HasT (tt : TT) (Γ : Cxt) (P : Bool → Prop) : Prop := ∀ (M : List Addr) (k : Nat) (σ : L2.St) (H : Hp) (Q : Bool → Hp → Prop), Ok C (k + c) M H → Sat Γ σ (hide M H) → (∀ b H', go C H H' → Ok C k M H' → P b → Q b H') → tt σ H Q
def HasA (ta : TA) (Γ : Cxt) (P : List PyData → Prop) : Prop := ∀ (M : List Addr) (k : Nat) (σ : L2.St) (H : Hp) (Q : List V → Hp → Prop), Ok C (k + c) M H → Sat Γ σ (hide M H) → (∀ vs H' ds, go C H H' → Ok C k M H' → P ds → DqAll C (hide M H') vs ds → Q vs H') → ta σ H Q
end
/-- how a call's value lies: what is own, the heap ahead, the value, the heap behind -/
abbrev Res := Cf → List Addr → Hp → V → Hp → Prop
def rD (d : PyData) : Res := fun C M _ v H' => Dq C (hide M H') v d
def rP (P : PyData → Prop) : Res := fun C M _ v H' => ∃ d, P d ∧ Dq C (hide M H') v d
/-- a promise: from data to data. c: how many draws it may take -/
def spR (T : List (Addr × Str)) (K : PySem.W.Frag) (c : Nat) (F : List PyData → Res → Prop) (n : Nat) : Sp := fun vs H Q _ => ∃ (S M : List Addr) (k : Nat) (ds : List PyData) (R : Res), vs.length = n ∧ Ok ⟨K, T, S⟩ (k + c) M H ∧ DqAll ⟨K, T, S⟩ (hide M H) vs ds ∧ F ds R ∧
  ∀ v H', go ⟨K, T, S⟩ H H' → Ok ⟨K, T, S⟩ k M H' → R ⟨K, T, S⟩ M H v H' → Q v H'
/-- the promise of a def that is a function of its data -/
abbrev spD (T : List (Addr × Str)) (K : PySem.W.Frag) (F : List PyData → PyData → Prop) (n : Nat) : Sp := spR T K 0 (fun ds R => ∃ d, R = rD d ∧ F ds d) n
section
variable {C : Cf} {Γ : Cxt} {ta tb te : TE} {τ τ' τ2 : Ty} {d e : PyData} {ds es : List PyData} {i j : Int} {t u : TT} {b b' : Bool} {c c1 c2 c3 : Nat} {P Q : PyData → Prop}
theorem has_sub (h : HasE C c te Γ τ) (s : ∀ v H, τ.p v H → τ'.p v H) : HasE C c te Γ τ' := fun M k σ H Q ok st q => h M k σ H Q ok st fun v H' g o r => q v H' g o (s _ _ r)
theorem has_le (h : HasE C c1 te Γ τ) (l : c1 ≤ c) : HasE C c te Γ τ := fun M k σ H Q ok st q => h M (k + (c - c1)) σ H Q (ok.le (by omega)) st fun v H' g o r => q v H' g (o.le (by omega)) r
theorem has_any (h : HasE C c te Γ (tyD C d)) (p : P d) : HasE C c te Γ (tyP C P) := has_sub h fun v H r => ⟨d, p, r⟩
theorem has_wk {Δ : Cxt} (w : Wk Γ Δ) (h : HasE C c te Δ τ) : HasE C c te Γ τ := fun M k σ H Q ok st q => h M k σ H Q ok (st.wk w) q
theorem has_var {n : Nat} (h : Γ[n]? = some (some τ)) : HasE C 0 (tVar n) Γ τ := fun M k σ H Q ok st q => by
  obtain ⟨v, e1, e2⟩ := st.2 n τ h
  exact ⟨v, e1, q v H (go.refl H) ok e2⟩
theorem has_int {n : Int} : HasE C 0 (tC (.int n)) Γ (tyD C (.int n)) := fun M k σ H Q ok _ q => q _ H (go.refl H) ok (.int n)
theorem has_bl : HasE C 0 (tC (.bl b)) Γ (tyD C (.bool b)) := fun M k σ H Q ok _ q => q _ H (go.refl H) ok (.bl b)
theorem has_non : HasE C 0 (tC .non) Γ (tyD C .none) := fun M k σ H Q ok _ q => q _ H (go.refl H) ok .non
theorem has_str {x : Str} : HasE C 0 (tC (.str x)) Γ (tyD C (.str x)) := fun M k σ H Q ok _ q => q _ H (go.refl H) ok (.str x)
/-- two expressions in a row -/
theorem has2 (ha : HasE C c1 ta Γ τ) (hb : HasE C c2 tb Γ τ2) {M : List Addr} {k : Nat} {σ : L2.St} {H : Hp} {R : V → V → Hp → Prop} (ok : Ok C (k + (c1 + c2)) M H) (st : Sat Γ σ (hide M H))
    (q : ∀ x y H', go C H H' → Ok C k M H' → τ.p x (hide M H') → τ2.p y (hide M H') → R x y H') : ta σ H fun x H1 => tb σ H1 fun y H2 => R x y H2 :=
  ha M (k + c2) σ H _ (ok.le (by omega)) st fun x H1 g1 o1 p1 => hb M k σ H1 _ o1 (st.ext (g1.k ok)) fun y H2 g2 o2 p2 =>
    q x y H2 (g1.trans g2) o2 (τ.mono (g2.k o1) p1) p2
/-- an operator on data -/
def Op2 (C : Cf) (r : R2) (d e : PyData) (τ : Ty) : Prop := ∀ (M : List Addr) (k : Nat) (x y : V) (H : Hp) (Q : VK), Ok C k M H → Dq C (hide M H) x d → Dq C (hide M H) y e → (∀ v H', go C H H' → Ok C k M H' → τ.p v (hide M H') → Q v H') → r x y H Q
theorem has_op {r : R2} (ha : HasE C c1 ta Γ (tyD C d)) (hb : HasE C c2 tb Γ (tyD C e)) (o : Op2 C r d e τ) : HasE C (c1 + c2) (tOp r ta tb) Γ τ := fun M k σ H Q ok st q =>
  has2 ha hb ok st fun x y H' g o1 p1 p2 => o M k x y H' Q o1 p1 p2 fun v H2 g2 => q v H2 (g.trans g2)
theorem has_opN {r : R2} (ha : HasE C c1 ta Γ (tyP C P)) (hb : HasE C c2 tb Γ (tyP C Q)) (o : ∀ d e, P d → Q e → Op2 C r d e τ) : HasE C (c1 + c2) (tOp r ta tb) Γ τ := fun M k σ H Q ok st q =>
  has2 ha hb ok st fun x y H' g o1 ⟨d, h1, p1⟩ ⟨e, h2, p2⟩ => o d e h1 h2 M k x y H' _ o1 p1 p2 fun v H2 g2 => q v H2 (g.trans g2)
theorem op_i {f : Int → Int → Int} : Op2 C (rI0 fun i j => .int (f i j)) (.int i) (.int j) (tyD C (.int (f i j))) := fun M k x y H Q ok p1 p2 q => ⟨i, j, d_int p1, d_int p2, q _ _ (go.refl H) ok (.int _)⟩
theorem op_ic {D : Int → Int → Prop} {f : Int → Int → Int} (hc : D i j) : Op2 C (rI D fun i j => .int (f i j)) (.int i) (.int j) (tyD C (.int (f i j))) := fun M k x y H Q ok p1 p2 q => ⟨i, j, d_int p1, d_int p2, hc, q _ _ (go.refl H) ok (.int _)⟩
theorem op_b {f : Int → Int → Bool} : Op2 C (rI0 fun i j => .bl (f i j)) (.int i) (.int j) (tyD C (.bool (f i j))) := fun M k x y H Q ok p1 p2 q => ⟨i, j, d_int p1, d_int p2, q _ _ (go.refl H) ok (.bl _)⟩
theorem has_i2 {f : Int → Int → Int} (ha : HasE C c1 ta Γ (tyD C (.int i))) (hb : HasE C c2 tb Γ (tyD C (.int j))) : HasE C (c1 + c2) (tOp (rI0 fun i j => .int (f i j)) ta tb) Γ (tyD C (.int (f i j))) := has_op ha hb op_i
theorem has_ic {D : Int → Int → Prop} {f : Int → Int → Int} (hc : D i j) (ha : HasE C c1 ta Γ (tyD C (.int i))) (hb : HasE C c2 tb Γ (tyD C (.int j))) : HasE C (c1 + c2) (tOp (rI D fun i j => .int (f i j)) ta tb) Γ (tyD C (.int (f i j))) := has_op ha hb (op_ic hc)
theorem has_b2 {f : Int → Int → Bool} (ha : HasE C c1 ta Γ (tyD C (.int i))) (hb : HasE C c2 tb Γ (tyD C (.int j))) : HasE C (c1 + c2) (tOp (rI0 fun i j => .bl (f i j)) ta tb) Γ (tyD C (.bool (f i j))) := has_op ha hb op_b
theorem dA_at {H : Hp} {vs : List V} {i : Int} {e : PyData} (r : DqAll C H vs ds) (h : atI ds i = some e) : ∃ v, atI vs i = some v ∧ Dq C H v e := by
  unfold atI at h ⊢
  rw [dA_len r]
  cases q : ixN ds.length i with
  | none => rw [q] at h; cases h
  | some j =>
    rw [q] at h
    exact dA_got r h
theorem sq_or {K : PySem.W.Frag} {H : Hp} {M : List Addr} {p : Addr} {xs : List V} (h : hide M H p = some (.lst xs) ∨ hide M H p = some (.tup xs)) : SqL K H p xs ∨ SqT K H p xs := h.imp (fun z => sqL_of (hide_some z).2) (fun z => sqT_of (hide_some z).2)
theorem op_ixD (e1 : seqD d = some ds) (e2 : atI ds i = some e) : Op2 C (rIx C.K) d (.int i) (tyD C e) := fun M k x y H Q ok p1 p2 q => by
  obtain ⟨p, xs, ex, hs, r⟩ := d_seq p1 e1
  obtain ⟨v, hv, rv⟩ := dA_at r e2
  rcases sq_or hs with hs | hs
  · exact .inl ⟨p, xs, i, v, ex, d_int p2, hs, hv, q v H (go.refl H) ok rv⟩
  · exact .inr (.inl ⟨p, xs, i, v, ex, d_int p2, hs, hv, q v H (go.refl H) ok rv⟩)
theorem has_ix (ha : HasE C c1 ta Γ (tyD C d)) (hb : HasE C c2 tb Γ (tyD C (.int i))) (e1 : seqD d = some ds) (e2 : atI ds i = some e) : HasE C (c1 + c2) (tOp (rIx C.K) ta tb) Γ (tyD C e) := has_op ha hb (op_ixD e1 e2)
theorem has_nil : HasA C 0 tNil Γ (fun l => l = []) := fun M k σ H Q ok _ q => q [] H [] (go.refl H) ok rfl .nil
theorem has_consN {tr : TA} {R : List PyData → Prop} (ha : HasE C c1 ta Γ (tyP C P)) (hr : HasA C c2 tr Γ R) : HasA C (c1 + c2) (tCons ta tr) Γ (fun l => ∃ d r, l = d :: r ∧ P d ∧ R r) := fun M k σ H Q ok st q =>
  ha M (k + c2) σ H _ (ok.le (by omega)) st fun x H1 g1 o1 ⟨d, h, p1⟩ => hr M k σ H1 _ o1 (st.ext (g1.k ok)) fun xs H2 r g2 o2 hr p2 => q _ H2 (d :: r) (g1.trans g2) o2 ⟨d, r, rfl, h, hr⟩ (.cons (p1.ext (g2.k o1)) p2)
theorem has_cons {tr : TA} (ha : HasE C c1 ta Γ (tyD C d)) (hr : HasA C c2 tr Γ (fun l => l = ds)) : HasA C (c1 + c2) (tCons ta tr) Γ (fun l => l = d :: ds) := fun M k σ H Q ok st q =>
  ha M (k + c2) σ H _ (ok.le (by omega)) st fun x H1 g1 o1 p1 => hr M k σ H1 _ o1 (st.ext (g1.k ok)) fun xs H2 r g2 o2 hr p2 => q _ H2 (d :: r) (g1.trans g2) o2 (by rw [hr]) (.cons (p1.ext (g2.k o1)) p2)
theorem hasA_le {tr : TA} {R : List PyData → Prop} (h : HasA C c1 tr Γ R) (l : c1 ≤ c) : HasA C c tr Γ R := fun M k σ H Q ok st q => h M (k + (c - c1)) σ H Q (ok.le (by omega)) st fun v H' r g o p => q v H' r g (o.le (by omega)) p
/-- what a call promises, to what is asked -/
theorem has_callR {F : List PyData → Res → Prop} {n : Nat} {E : XK} {tr : TA} {R : List PyData → Prop} (ha : HasA C c1 tr Γ R) (hF : ∀ ds, R ds → ds.length = n ∧ ∃ ρ, F ds ρ ∧ ∀ M H v H', ρ C M H v H' → τ.p v (hide M H')) : HasE C (c1 + c2) (tCall (spR C.T C.K c2 F n) [] E tr) Γ τ := fun M k σ H Q ok st q =>
  ha M (k + c2) σ H _ (ok.le (by omega)) st fun xs H1 ds g1 o1 hR p1 => by
    obtain ⟨hl, ρ, hf, hρ⟩ := hF ds hR
    exact ⟨C.S, M, k, ds, ρ, by rw [List.append_nil, dA_len p1, hl], o1, by rw [List.append_nil]; exact p1, hf, fun v H' g2 o2 p2 => q v H' (g1.trans g2) o2 (hρ _ _ _ _ p2)⟩
theorem has_call {F : List PyData → PyData → Prop} {n : Nat} {E : XK} {tr : TA} (ha : HasA C c1 tr Γ (fun l => l = ds)) (hl : ds.length = n) (hF : F ds d) : HasE C (c1 + 0) (tCall (spD C.T C.K F n) [] E tr) Γ (tyD C d) :=
  has_callR ha fun l e => ⟨by rw [e]; exact hl, rD d, ⟨d, rfl, by rw [e]; exact hF⟩, fun _ _ _ _ h => h⟩
theorem small_line {n : Nat} (h : n ≤ 100000) : n ≤ sizeLine := Nat.le_trans h (by decide)
theorem dom_new {M : List Addr} {k : Nat} {H : Hp} {p : Addr} {o : HO} (ok : Ok C k M H) (h : H p = none) : hide M (upd H p o) p = some o := by rw [hide_out (ok.out h)]; exact upd_same
theorem has_tupN {tr : TA} {R : List PyData → Prop} (ha : HasA C c tr Γ R) (hl : ∀ ds, R ds → ds.length ≤ 100000) : HasE C c (tTup tr) Γ (tyP C fun d => ∃ ds, d = .tuple ds ∧ R ds) := fun M k σ H Q ok st q =>
  ha M k σ H _ ok st fun xs H1 ds g1 o1 hR p1 => ⟨by rw [dA_len p1]; exact small_line (hl ds hR), fun p hp => q _ _ (g1.trans (go.new hp)) (o1.new hp) ⟨.tuple ds, ⟨ds, rfl, hR⟩, .tup (dom_new o1 hp) (p1.ext ((go.new (C := C) hp).k o1))⟩⟩
theorem has_lstN {tr : TA} {R : List PyData → Prop} (ha : HasA C c tr Γ R) (hl : ∀ ds, R ds → ds.length ≤ 100000) : HasE C c (tLst tr) Γ (tyP C fun d => ∃ ds, d = .list ds ∧ R ds) := fun M k σ H Q ok st q =>
  ha M k σ H _ ok st fun xs H1 ds g1 o1 hR p1 => ⟨by rw [dA_len p1]; exact small_line (hl ds hR), fun p hp => q _ _ (g1.trans (go.new hp)) (o1.new hp) ⟨.list ds, ⟨ds, rfl, hR⟩, .lst (dom_new o1 hp) (p1.ext ((go.new (C := C) hp).k o1))⟩⟩
theorem has_tup {tr : TA} (ha : HasA C c tr Γ (fun l => l = ds)) (hl : ds.length ≤ 100000) : HasE C c (tTup tr) Γ (tyD C (.tuple ds)) :=
  has_sub (has_tupN ha fun l e => by rw [e]; exact hl) fun v H ⟨d, ⟨l, e1, e2⟩, h⟩ => by rw [e2] at e1; rw [e1] at h; exact h
theorem has_lst {tr : TA} (ha : HasA C c tr Γ (fun l => l = ds)) (hl : ds.length ≤ 100000) : HasE C c (tLst tr) Γ (tyD C (.list ds)) :=
  has_sub (has_lstN ha fun l e => by rw [e]; exact hl) fun v H ⟨d, ⟨l, e1, e2⟩, h⟩ => by rw [e2] at e1; rw [e1] at h; exact h
/-! tests -/
theorem hast_le {R : Bool → Prop} (h : HasT C c1 t Γ R) (l : c1 ≤ c) : HasT C c t Γ R := fun M k σ H Q ok st q => h M (k + (c - c1)) σ H Q (ok.le (by omega)) st fun v H' g o p => q v H' g (o.le (by omega)) p
theorem hast_B (h : HasE C c te Γ (tyD C (.bool b))) : HasT C c (tB te) Γ (fun x => x = b) := fun M k σ H Q ok st q => h M k σ H _ ok st fun v H' g o p => ⟨b, d_bl p, q b H' g o rfl⟩
theorem hast_test (h : HasE C c te Γ (tyD C (.bool b))) : HasT C c (tTest te) Γ (fun x => x = b) := fun M k σ H Q ok st q => h M k σ H _ ok st fun v H' g o p => ⟨b, d_bl p, q b H' g o rfl⟩
/-- either -/
theorem hast_BN (h : HasE C c te Γ (tyP C fun d => ∃ b, d = .bool b)) : HasT C c (tB te) Γ (fun _ => True) := fun M k σ H Q ok st q => h M k σ H _ ok st fun v H' g o ⟨d, ⟨b, e⟩, p⟩ => by rw [e] at p; exact ⟨b, d_bl p, q b H' g o trivial⟩
theorem hast_testN (h : HasE C c te Γ (tyP C fun d => ∃ b, d = .bool b)) : HasT C c (tTest te) Γ (fun _ => True) := fun M k σ H Q ok st q => h M k σ H _ ok st fun v H' g o ⟨d, ⟨b, e⟩, p⟩ => by rw [e] at p; exact ⟨b, d_bl p, q b H' g o trivial⟩
theorem hast_not (h : HasT C c t Γ (fun x => x = b)) : HasT C c (tNot t) Γ (fun x => x = !b) := fun M k σ H Q ok st q => h M k σ H _ ok st fun x H' g o e => q (!x) H' g o (by rw [e])
theorem hast_and (h1 : HasT C c1 t Γ (fun x => x = b)) (h2 : b = true → HasT C c2 u Γ (fun x => x = b')) : HasT C (c1 + c2) (tAnd t u) Γ (fun x => x = (b && b')) := fun M k σ H Q ok st q => h1 M (k + c2) σ H _ (ok.le (by omega)) st fun x H1 g1 o1 e => by
  subst e
  cases x with
  | true => exact h2 rfl M k σ H1 Q o1 (st.ext (g1.k ok)) fun y H2 g2 o2 e => q y H2 (g1.trans g2) o2 e
  | false => exact q false H1 g1 (o1.le (by omega)) rfl
theorem hast_or (h1 : HasT C c1 t Γ (fun x => x = b)) (h2 : b = false → HasT C c2 u Γ (fun x => x = b')) : HasT C (c1 + c2) (tOr t u) Γ (fun x => x = (b || b')) := fun M k σ H Q ok st q => h1 M (k + c2) σ H _ (ok.le (by omega)) st fun x H1 g1 o1 e => by
  subst e
  cases x with
  | false => exact h2 rfl M k σ H1 Q o1 (st.ext (g1.k ok)) fun y H2 g2 o2 e => q y H2 (g1.trans g2) o2 e
  | true => exact q true H1 g1 (o1.le (by omega)) rfl
theorem hast_any {R : Bool → Prop} (h : HasT C c t Γ R) : HasT C c t Γ (fun _ => True) := fun M k σ H Q ok st q => h M k σ H _ ok st fun x H' g o _ => q x H' g o trivial
theorem hast_andN {R S : Bool → Prop} (h1 : HasT C c1 t Γ R) (h2 : HasT C c2 u Γ S) : HasT C (c1 + c2) (tAnd t u) Γ (fun _ => True) := fun M k σ H Q ok st q => h1 M (k + c2) σ H _ (ok.le (by omega)) st fun x H1 g1 o1 e => by
  cases x with
  | true => exact h2 M k σ H1 Q o1 (st.ext (g1.k ok)) fun y H2 g2 o2 e => q y H2 (g1.trans g2) o2 trivial
  | false => exact q false H1 g1 (o1.le (by omega)) trivial
theorem hast_orN {R S : Bool → Prop} (h1 : HasT C c1 t Γ R) (h2 : HasT C c2 u Γ S) : HasT C (c1 + c2) (tOr t u) Γ (fun _ => True) := fun M k σ H Q ok st q => h1 M (k + c2) σ H _ (ok.le (by omega)) st fun x H1 g1 o1 e => by
  cases x with
  | false => exact h2 M k σ H1 Q o1 (st.ext (g1.k ok)) fun y H2 g2 o2 e => q y H2 (g1.trans g2) o2 trivial
  | true => exact q true H1 g1 (o1.le (by omega)) trivial
theorem has_andV (h1 : HasE C c1 ta Γ (tyD C (.bool b))) (h2 : b = true → HasE C c2 tb Γ (tyD C (.bool b'))) : HasE C (c1 + c2) (tAndV ta tb) Γ (tyD C (.bool (b && b'))) := fun M k σ H Q ok st q => h1 M (k + c2) σ H _ (ok.le (by omega)) st fun v H1 g1 o1 p => ⟨b, d_bl p, by
  cases b with
  | true => exact h2 rfl M k σ H1 Q o1 (st.ext (g1.k ok)) fun v H2 g2 o2 p2 => q v H2 (g1.trans g2) o2 p2
  | false => exact q _ H1 g1 (o1.le (by omega)) (.bl false)⟩
theorem has_orV (h1 : HasE C c1 ta Γ (tyD C (.bool b))) (h2 : b = false → HasE C c2 tb Γ (tyD C (.bool b'))) : HasE C (c1 + c2) (tOrV ta tb) Γ (tyD C (.bool (b || b'))) := fun M k σ H Q ok st q => h1 M (k + c2) σ H _ (ok.le (by omega)) st fun v H1 g1 o1 p => ⟨b, d_bl p, by
  cases b with
  | false => exact h2 rfl M k σ H1 Q o1 (st.ext (g1.k ok)) fun v H2 g2 o2 p2 => q v H2 (g1.trans g2) o2 p2
  | true => exact q _ H1 g1 (o1.le (by omega)) (.bl true)⟩
theorem has_notV (h1 : HasE C c ta Γ (tyD C (.bool b))) : HasE C c (tNotV ta) Γ (tyD C (.bool (!b))) := fun M k σ H Q ok st q => h1 M k σ H _ ok st fun v H1 g1 o1 p => ⟨b, d_bl p, q _ H1 g1 o1 (.bl _)⟩
theorem has_if (h : HasT C c1 t Γ (fun x => x = b)) (h1 : b = true → HasE C c2 ta Γ τ) (h2 : b = false → HasE C c3 tb Γ τ) : HasE C (c1 + (c2 + c3)) (tIf t ta tb) Γ τ := fun M k σ H Q ok st q => h M (k + (c2 + c3)) σ H _ (ok.le (by omega)) st fun x H1 g1 o1 e => by
  subst e
  cases x with
  | true => exact h1 rfl M k σ H1 Q (o1.le (by omega)) (st.ext (g1.k ok)) fun v H2 g2 o2 p => q v H2 (g1.trans g2) o2 p
  | false => exact h2 rfl M k σ H1 Q (o1.le (by omega)) (st.ext (g1.k ok)) fun v H2 g2 o2 p => q v H2 (g1.trans g2) o2 p
theorem has_ifN {R : Bool → Prop} (h : HasT C c1 t Γ R) (h1 : R true → HasE C c2 ta Γ τ) (h2 : R false → HasE C c3 tb Γ τ) : HasE C (c1 + (c2 + c3)) (tIf t ta tb) Γ τ := fun M k σ H Q ok st q => h M (k + (c2 + c3)) σ H _ (ok.le (by omega)) st fun x H1 g1 o1 e => by
  cases x with
  | true => exact h1 e M k σ H1 Q (o1.le (by omega)) (st.ext (g1.k ok)) fun v H2 g2 o2 p => q v H2 (g1.trans g2) o2 p
  | false => exact h2 e M k σ H1 Q (o1.le (by omega)) (st.ext (g1.k ok)) fun v H2 g2 o2 p => q v H2 (g1.trans g2) o2 p
/-! calls of built-ins -/
theorem has_cb {r : List V → Hp → VK → Prop} {tr : TA} {R : List PyData → Prop} (ha : HasA C c tr Γ R) (hr : ∀ ds, R ds → ∀ (M : List Addr) (k : Nat) (vs : List V) (H : Hp) (Q : VK), Ok C k M H → DqAll C (hide M H) vs ds → (∀ v H', go C H H' → Ok C k M H' → τ.p v (hide M H') → Q v H') → r vs H Q) :
    HasE C c (tCB r tr) Γ τ := fun M k σ H Q ok st q => ha M k σ H _ ok st fun vs H1 ds g1 o1 h p => hr ds h M k vs H1 Q o1 p fun v H2 g2 => q v H2 (g1.trans g2)
theorem has_len (h : HasE C c te Γ (tyD C d)) (e1 : seqD d = some ds) : HasE C c (tCB (fun xs H Q => ∃ p ys, xs = [.ref p] ∧ (SqL C.K H p ys ∨ SqT C.K H p ys) ∧ Q (.int ys.length) H) (tCons te tNil)) Γ (tyD C (.int ds.length)) := fun M k σ H Q ok st q =>
  h M k σ H _ ok st fun v H1 g1 o1 p => by
    obtain ⟨a, xs, ex, hs, r⟩ := d_seq p e1
    subst ex
    exact ⟨a, xs, rfl, sq_or hs, by rw [dA_len r]; exact q _ H1 g1 o1 (.int _)⟩
theorem has_gcd (ha : HasE C c1 ta Γ (tyD C (.int i))) (hb : HasE C c2 tb Γ (tyD C (.int j))) : HasE C (c1 + c2) (tCB rGcd (tCons ta (tCons tb tNil))) Γ (tyD C (.int ((Nat.gcd i.natAbs j.natAbs : Nat) : Int))) := fun M k σ H Q ok st q =>
  has2 ha hb ok st fun x y H' g o p1 p2 => by
    have e1 := d_int p1
    have e2 := d_int p2
    subst e1 e2
    exact ⟨i, j, rfl, q _ _ g o (.int _)⟩
end
end Q6
end
section
set_option maxHeartbeats 4000000
/-! Blocks: what a statement does to the slots (Cxt) and to one's own lists (Own). -/
namespace Q6
open PySem PySem.Spec PyProof.Rows L2 LamX
abbrev Own := List (Addr × List PyData)
/-- a state within a def's walk: M0, H0 at the entry; A: the lists that it made and still changes -/
structure At0 (C : Cf) (k : Nat) (M0 : List Addr) (H0 N : Hp) (A : Own) (Γ : Cxt) (σ : L2.St) (H : Hp) : Prop where
  ok : Ok C k (A.map (·.1) ++ M0) H
  ok0 : Ok C k M0 H
  gone : go C H0 H
  kept : ExtN N (hide (A.map (·.1) ++ M0) H)
  own : ∀ p ∈ A, NewAt H0 p.1 ∧ p.1 ∉ M0 ∧ ∃ xs, H p.1 = some (.lst xs) ∧ DqAll C (hide (A.map (·.1) ++ M0) H) xs p.2
  nd : (A.map (·.1)).Nodup
  sat : Sat Γ σ (hide (A.map (·.1) ++ M0) H)
abbrev Post := Cxt → Own → Prop
/-- it goes on in just this state (or more is known) -/
def to (Γ1 : Cxt) (A1 : Own) : Post := fun Γ A => Wk Γ Γ1 ∧ A = A1
abbrev nvr : Post := fun _ _ => False
def HasS (C : Cf) (c : Nat) (ts : TS) (Γ : Cxt) (A : Own) (B : Post) (R : Res) : Prop := ∀ (M0 : List Addr) (H0 N : Hp) (k : Nat) (σ : L2.St) (H : Hp) (D : Ends), At0 C (k + c) M0 H0 N A Γ σ H →
  (∀ Γ' A' σ' H', B Γ' A' → At0 C k M0 H0 N A' Γ' σ' H' → D.nx σ' H') → (∀ v H', go C H0 H' → Ok C k M0 H' → R C M0 H0 v H' → D.rt v H') → ts D σ H
section
variable {C : Cf} {Γ Δ Γ1 : Cxt} {ta tb te : TE} {τ τ' τ2 : Ty} {d e : PyData} {ds es : List PyData} {i j : Int} {t u : TT} {b b' : Bool} {c c1 c2 c3 k : Nat} {P Q : PyData → Prop} {A A1 : Own} {B B' : Post} {R : Res} {t1 t2 ts us rest : TS} {M0 : List Addr} {H0 N H H' : Hp} {σ σ' : L2.St}
theorem At0.le {k' : Nat} (a : At0 C k M0 H0 N A Γ σ H) (l : k' ≤ k) : At0 C k' M0 H0 N A Γ σ H := ⟨a.ok.le l, a.ok0.le l, a.gone, a.kept, a.own, a.nd, a.sat⟩
theorem At0.wk (a : At0 C k M0 H0 N A Γ σ H) (w : Wk Γ Δ) : At0 C k M0 H0 N A Δ σ H := ⟨a.ok, a.ok0, a.gone, a.kept, a.own, a.nd, a.sat.wk w⟩
/-- the heap has grown, the slots have changed -/
theorem At0.step {k' : Nat} (a : At0 C k M0 H0 N A Γ σ H) (g : go C H H') (o : Ok C k' (A.map (·.1) ++ M0) H') (s : Sat Δ σ' (hide (A.map (·.1) ++ M0) H')) : At0 C k' M0 H0 N A Δ σ' H' where
  ok := o
  ok0 := ⟨fun x hx => o.dom x (List.mem_append_right _ hx), o.tabs, a.ok0.sub, o.str⟩
  gone := a.gone.trans g
  kept := a.kept.trans (g.k a.ok)
  own := fun p hp => by
    obtain ⟨h1, h2, xs, h3, h4⟩ := a.own p hp
    exact ⟨h1, h2, xs, g.at (fun z => h2 (a.ok0.sub _ z)) h3 (fun ps z => by cases z), h4.ext (g.k a.ok)⟩
  nd := a.nd
  sat := s
theorem At0.gos {k' : Nat} (a : At0 C k M0 H0 N A Γ σ H) (g : go C H H') (o : Ok C k' (A.map (·.1) ++ M0) H') : At0 C k' M0 H0 N A Γ σ H' := a.step g o (a.sat.ext (g.k a.ok))
theorem hasS_le (h : HasS C c1 ts Γ A B R) (l : c1 ≤ c) : HasS C c ts Γ A B R := fun M0 H0 N k σ H D a q r => h M0 H0 N (k + (c - c1)) σ H D (a.le (by omega)) (fun Γ' A' σ' H' b a' => q Γ' A' σ' H' b (a'.le (by omega))) fun v H' g o x => r v H' g (o.le (by omega)) x
theorem hasS_wk (w : Wk Γ Δ) (h : HasS C c ts Δ A B R) : HasS C c ts Γ A B R := fun M0 H0 N k σ H D a q r => h M0 H0 N k σ H D (a.wk w) q r
theorem hasS_to (h : HasS C c ts Γ A B R) (hb : ∀ Γ A, B Γ A → B' Γ A) : HasS C c ts Γ A B' R := fun M0 H0 N k σ H D a q r => h M0 H0 N k σ H D a (fun Γ' A' σ' H' b => q Γ' A' σ' H' (hb _ _ b)) r
theorem to_here : to Γ A Γ A := ⟨Wk.refl Γ, rfl⟩
theorem hasS_seq (h1 : HasS C c1 t1 Γ A (to Γ1 A1) R) (h2 : HasS C c2 t2 Γ1 A1 B R) : HasS C (c1 + c2) (tSeq t1 t2) Γ A B R := fun M0 H0 N k σ H D a q r =>
  h1 M0 H0 N (k + c2) σ H _ (a.le (by omega)) (fun Γ' A' σ' H' ⟨w, e⟩ a' => by
    subst e
    exact h2 M0 H0 N k σ' H' D (a'.wk w) q r) fun v H' g o x => r v H' g (o.le (by omega)) x
theorem hasS_next (hb : B Γ A) : HasS C 0 tNext Γ A B R := fun M0 H0 N k σ H D a q r => q Γ A σ H hb a
theorem hasS_set {n : Nat} (h : HasE C c te Γ τ) (hb : B (Γ.set n (some τ)) A) : HasS C c (tAsg te (gName n)) Γ A B R := fun M0 H0 N k σ H D a q r =>
  h _ k σ H _ a.ok a.sat fun v H1 g1 o1 p => q _ _ _ _ hb (a.step g1 o1 ((a.sat.ext (g1.k a.ok)).set p))
theorem hasS_seq_set {n : Nat} (h : HasE C c1 te Γ τ2) (hr : HasS C c2 rest (Γ.set n (some τ2)) A B R) : HasS C (c1 + c2) (tSeq (tAsg te (gName n)) rest) Γ A B R := hasS_seq (hasS_set h to_here) hr
/-- what is known of a slot is looked at -/
theorem hasS_open {n : Nat} (hg : Γ[n]? = some (some (tyP C P))) (h : ∀ d, P d → HasS C c ts (Γ.set n (some (tyD C d))) A B R) : HasS C c ts Γ A B R := fun M0 H0 N k σ H D a q r => by
  obtain ⟨v, e1, d, hd, p⟩ := a.sat.2 n _ hg
  exact h d hd M0 H0 N k σ H D ⟨a.ok, a.ok0, a.gone, a.kept, a.own, a.nd, a.sat.put e1 p⟩ q r
/-- a value that is no address -/
def flatD : PyData → Bool
  | .none => true
  | .bool _ => true
  | .int _ => true
  | .str _ => true
  | .list _ => false
  | .tuple _ => false
  | .dict _ => false
theorem ok_tail {A : Own} (a : At0 C k M0 H0 N A Γ σ H) : Ok C k M0 H := a.ok0
theorem hasS_ret (h : HasE C c te Γ (tyD C d)) : HasS C c (tRet te) Γ A B (rD d) := fun M0 H0 N k σ H D a q r => h _ k σ H _ a.ok a.sat fun v H1 g1 o1 p =>
  have a' := a.gos g1 o1
  r v H1 a'.gone a'.ok0 (p.ext (ext_more fun b hb => List.mem_append_right _ hb))
theorem hasS_retP (h : HasE C c te Γ (tyP C P)) : HasS C c (tRet te) Γ A B (rP P) := fun M0 H0 N k σ H D a q r => h _ k σ H _ a.ok a.sat fun v H1 g1 o1 ⟨d, hd, p⟩ =>
  have a' := a.gos g1 o1
  r v H1 a'.gone a'.ok0 ⟨d, hd, p.ext (ext_more fun b hb => List.mem_append_right _ hb)⟩
theorem hasS_ifP {S : Bool → Prop} (h : HasT C c1 t Γ S) (h1 : S true → HasS C c2 t1 Γ A B R) (h2 : S false → HasS C c3 t2 Γ A B R) : HasS C (c1 + (c2 + c3)) (tIfS t t1 t2) Γ A B R := fun M0 H0 N k σ H D a q r => h _ (k + (c2 + c3)) σ H _ (a.le (by omega) : At0 C _ M0 H0 N A Γ σ H).ok a.sat fun x H1 g1 o1 e => by
  have a' := a.gos g1 o1
  cases x with
  | true => exact hasS_le (h1 e) (by omega) M0 H0 N k σ H1 D a' q r
  | false => exact hasS_le (h2 e) (by omega) M0 H0 N k σ H1 D a' q r
theorem hasS_if (h : HasT C c1 t Γ (fun x => x = b)) (h1 : b = true → HasS C c2 t1 Γ A B R) (h2 : b = false → HasS C c3 t2 Γ A B R) : HasS C (c1 + (c2 + c3)) (tIfS t t1 t2) Γ A B R :=
  hasS_ifP h (fun e => h1 e.symm) fun e => h2 e.symm
/-- what is behind an if is read in either branch -/
theorem hasS_seqif (h : HasT C c1 t Γ (fun x => x = b)) (h1 : b = true → HasS C c2 (tSeq t1 rest) Γ A B R) (h2 : b = false → HasS C c3 (tSeq t2 rest) Γ A B R) : HasS C (c1 + (c2 + c3)) (tSeq (tIfS t t1 t2) rest) Γ A B R := fun M0 H0 N k σ H D a q r => h _ (k + (c2 + c3)) σ H _ (a.le (by omega) : At0 C _ M0 H0 N A Γ σ H).ok a.sat fun x H1 g1 o1 e => by
  have a' := a.gos g1 o1
  cases x with
  | true => exact hasS_le (h1 e.symm) (by omega) M0 H0 N k σ H1 D a' q r
  | false => exact hasS_le (h2 e.symm) (by omega) M0 H0 N k σ H1 D a' q r
theorem hasS_seq_next (h : HasS C c rest Γ A B R) : HasS C c (tSeq tNext rest) Γ A B R := fun M0 H0 N k σ H D a q r => h M0 H0 N k σ H D a q r
theorem hasS_seq_ret (h : HasS C c (tRet te) Γ A nvr R) : HasS C c (tSeq (tRet te) rest) Γ A B R := fun M0 H0 N k σ H D a q r => h M0 H0 N k σ H { D with nx := rest D } a (fun _ _ _ _ z => z.elim) r
theorem hasS_ifret (h : HasT C c1 t Γ (fun x => x = b)) (h1 : b = true → HasS C c2 (tRet te) Γ A nvr R) (h2 : b = false → HasS C c3 rest Γ A B R) : HasS C (c1 + (c2 + c3)) (tSeq (tIfS t (tRet te) tNext) rest) Γ A B R :=
  hasS_seqif h (fun e => hasS_seq_ret (h1 e)) fun e => hasS_seq_next (h2 e)
/-! ### one's own lists -/
theorem own_new {l : Addr} {xs : List V} (a : At0 C k M0 H0 N A Γ σ H) (hl : H l = none) (r : DqAll C (hide (A.map (·.1) ++ M0) H) xs ds) : At0 C k M0 H0 N ((l, ds) :: A) Γ σ (upd H l (.lst xs)) := by
  have hn := a.ok.out hl
  have g : go C H (upd H l (.lst xs)) := go.new hl
  have k1 : ExtN (hide (A.map (·.1) ++ M0) H) (hide (((l, ds) :: A).map (·.1) ++ M0) (upd H l (.lst xs))) := hide_ext fun b o n e t => by
    have : b ≠ l := fun z => by rw [z, hl] at e; cases e
    exact ⟨fun z => by
      rcases List.mem_cons.mp z with z | z
      · exact this z
      · exact n z, by rw [upd_ne this]; exact e⟩
  have o1 : Ok C k (A.map (·.1) ++ M0) (upd H l (.lst xs)) := a.ok.new hl
  have new0 : NewAt H0 l := fun o e => by
    by_cases z : ∀ ps, o ≠ .tbl ps
    · have hs : l ∉ C.S := fun z => hn (a.ok.sub _ z)
      have := a.gone.at hs e z
      rw [hl] at this; cases this
    · cases o with
      | tbl ps => exact ⟨ps, rfl⟩
      | _ => exact absurd (fun ps w => by cases w) z
  refine ⟨o1.cons upd_same, a.ok0.new hl, a.gone.trans g, a.kept.trans k1, fun p hp => ?_, ?_, a.sat.ext k1⟩
  · rcases List.mem_cons.mp hp with e | e
    · subst e
      exact ⟨new0, fun z => hn (List.mem_append_right _ z), xs, upd_same, r.ext k1⟩
    · obtain ⟨h1, h2, ys, h3, h4⟩ := a.own p e
      exact ⟨h1, h2, ys, g.at (fun z => h2 (a.ok0.sub _ z)) h3 (fun ps z => by cases z), h4.ext k1⟩
  · refine List.nodup_cons.mpr ⟨fun z => hn (List.mem_append_left _ z), a.nd⟩
/-- x = [] and the like: the new list stays one's own -/
theorem hasS_own {n : Nat} {tr : TA} (ha : HasA C c1 tr Γ (fun l => l = ds)) (hz : ds.length ≤ 100000) (h : ∀ l, HasS C c2 rest (Γ.set n (some (tyV (.ref l)))) ((l, ds) :: A) B R) : HasS C (c1 + c2) (tSeq (tAsg (tLst tr) (gName n)) rest) Γ A B R := fun M0 H0 N k σ H D a q r =>
  ha _ (k + c2) σ H _ (a.le (by omega) : At0 C _ M0 H0 N A Γ σ H).ok a.sat fun xs H1 es g1 o1 e p => ⟨by rw [dA_len p, e]; exact small_line hz, fun l hl => by
    subst e
    have a1 := own_new (a.gos g1 o1) hl p
    exact h l M0 H0 N k _ _ D (a1.step (go.refl _) a1.ok (a1.sat.set rfl)) q r⟩
/-- it is no longer changed: a datum -/
theorem own_drop {l : Addr} {n : Nat} (hg : Γ[n]? = some (some (tyV (.ref l)))) (a : At0 C k M0 H0 N ((l, ds) :: A) Γ σ H) : At0 C k M0 H0 N A (Γ.set n (some (tyD C (.list ds)))) σ H := by
  have sub : ∀ b ∈ (A.map (·.1) ++ M0), b ∈ (((l, ds) :: A).map (·.1) ++ M0) := fun b hb => List.mem_cons_of_mem _ hb
  have x := ext_more (H := H) sub
  have nd := List.nodup_cons.mp a.nd
  obtain ⟨h1, h2, xs, h3, h4⟩ := a.own (l, ds) (List.mem_cons_self ..)
  refine ⟨⟨fun b hb => a.ok.dom b (sub b hb), a.ok.tabs, fun b hb => List.mem_append_right _ (a.ok0.sub b hb), a.ok.str⟩, a.ok0, a.gone, a.kept.trans x, fun p hp => ?_, nd.2, ?_⟩
  · obtain ⟨g1, g2, ys, g3, g4⟩ := a.own p (List.mem_cons_of_mem _ hp)
    exact ⟨g1, g2, ys, g3, g4.ext x⟩
  · obtain ⟨v, e1, e2⟩ := a.sat.2 n _ hg
    refine (a.sat.ext x).put e1 ?_
    rw [show v = .ref l from e2]
    refine .lst ?_ (h4.ext x)
    rw [hide_out fun z => ?_]
    · exact h3
    · rcases List.mem_append.mp z with z | z
      · exact nd.1 z
      · exact h2 z
theorem hasS_drop {l : Addr} {n : Nat} (hg : Γ[n]? = some (some (tyV (.ref l)))) (h : HasS C c ts (Γ.set n (some (tyD C (.list ds)))) A B R) : HasS C c ts Γ ((l, ds) :: A) B R := fun M0 H0 N k σ H D a q r => h M0 H0 N k σ H D (own_drop hg a) q r
/-- an expression that reads the own list and gives a flat value -/
theorem has_peek {l : Addr} {n : Nat} (hg : Γ[n]? = some (some (tyV (.ref l)))) (hf : flatD d = true) (h : HasE C c te (Γ.set n (some (tyD C (.list ds)))) (tyD C d)) {B' : Post} {R' : Res} {ts' : TS} : ∀ {M0 : List Addr} {H0 N : Hp} {σ : L2.St} {H : Hp} {Q : VK}, At0 C (k + c) M0 H0 N ((l, ds) :: A) Γ σ H →
    (∀ v H', At0 C k M0 H0 N ((l, ds) :: A) Γ σ H' → (∀ G, Dq C G v d) → Q v H') → te σ H Q := fun {M0 H0 N σ H Q} a q => by
  have a1 := own_drop hg a
  refine h _ k σ H Q a1.ok a1.sat fun v H' g o p => q v H' (a.gos g ?_) fun G => ?_
  · refine ⟨fun b hb => ?_, o.tabs, a.ok.sub, o.str⟩
    rcases List.mem_cons.mp hb with e | e
    · obtain ⟨h1, h2, xs, h3, h4⟩ := a.own (l, ds) (List.mem_cons_self ..)
      subst e
      exact ⟨xs, g.at (fun z => h2 (a.ok0.sub _ z)) h3 (fun ps z => by cases z)⟩
    · exact o.dom b e
  · cases p with
    | non => exact .non
    | bl b => exact .bl b
    | int i => exact .int i
    | str x => exact .str x
    | _ => cases hf
end
/-- the own list l gets other items -/
theorem own_put {C : Cf} {k : Nat} {M0 : List Addr} {H0 N : Hp} {A A' : Own} {Γ : Cxt} {σ : L2.St} {H : Hp} {l : Addr} {ds es : List PyData} {xs ys : List V} (a : At0 C k M0 H0 N A Γ σ H) (h : (l, ds) ∈ A) (hx : H l = some (.lst xs)) (r : DqAll C (hide (A.map (·.1) ++ M0) H) ys es)
    (e1 : A'.map (·.1) = A.map (·.1)) (e2 : ∀ p ∈ A', p = (l, es) ∨ (p.1 ≠ l ∧ p ∈ A)) : At0 C k M0 H0 N A' Γ σ (upd H l (.lst ys)) := by
  obtain ⟨h1, h2, _, _, _⟩ := a.own (l, ds) h
  have hm : l ∈ A.map (·.1) ++ M0 := List.mem_append_left _ (List.mem_map.mpr ⟨_, h, rfl⟩)
  have hs : l ∉ C.S := fun z => h2 (a.ok0.sub _ z)
  refine ⟨?_, a.ok0.upd hx hs, ?_, by rw [e1, hide_upd hm]; exact a.kept, fun p hp => ?_, by rw [e1]; exact a.nd, ?_⟩
  · rw [e1]; exact a.ok.upd hx hs
  · refine ⟨hide_ext fun b o n e t => ⟨n, ?_⟩, fun tt => (a.ok.upd hx hs).tabs⟩
    rw [upd_ne fun z => ?_]
    · exact a.gone.at n e t
    · rw [z] at e
      obtain ⟨ps, q⟩ := h1 o e
      exact t ps q
  · rw [e1, hide_upd hm]
    rcases e2 p hp with e | ⟨n, e⟩
    · subst e; exact ⟨h1, h2, ys, upd_same, r⟩
    · obtain ⟨g1, g2, zs, g3, g4⟩ := a.own p e
      exact ⟨g1, g2, zs, by rw [upd_ne n]; exact g3, g4⟩
  · rw [e1, hide_upd hm]; exact a.sat
section
variable {C : Cf} {Γ Δ Γ1 : Cxt} {te : TE} {d : PyData} {ds es : List PyData} {c c1 c2 k : Nat} {A A1 : Own} {B : Post} {R : Res}
/-- l.append(e), l the first of one's own -/
theorem hasS_append {K : PySem.W.Frag} {n : Nat} {l : Addr} (hg : Γ[n]? = some (some (tyV (.ref l)))) (h : HasE C c te Γ (tyD C d)) (hz : ds.length < 100000) (hK : K = C.K) (hb : B Γ ((l, ds ++ [d]) :: A)) :
    HasS C c (tDrop (tBM K "list" rAppend (tVar n) (tCons te tNil))) Γ ((l, ds) :: A) B R := fun M0 H0 N k σ H D a q r => by
  subst hK
  obtain ⟨v, e1, e2⟩ := a.sat.2 n _ hg
  have e2 : v = .ref l := e2
  subst e2
  obtain ⟨_, hn, xs, hx, hr⟩ := a.own (l, ds) (List.mem_cons_self ..)
  refine ⟨.ref l, e1, .inl ⟨rfl, _, sqL_of hx⟩, h _ k σ H _ a.ok a.sat fun y H1 g1 o1 p => ?_⟩
  have a1 := a.gos g1 o1
  have hx1 : H1 l = some (.lst xs) := g1.at (fun z => hn (a.ok0.sub _ z)) hx (fun ps z => by cases z)
  have hr1 := hr.ext (g1.k a.ok)
  refine ⟨l, xs, y, rfl, rfl, hx1, ?_, q _ _ _ _ hb (own_put a1 (List.mem_cons_self ..) hx1 (dA_app hr1 (dA_one p)) rfl fun p hp => ?_)⟩
  · rw [dA_len hr]; exact Nat.lt_of_lt_of_le hz (small_line (Nat.le_refl _))
  · rcases List.mem_cons.mp hp with e | e
    · exact .inl e
    · refine .inr ⟨fun z => ?_, List.mem_cons_of_mem _ e⟩
      have nd := List.nodup_cons.mp a.nd
      exact nd.1 (by rw [← z]; exact List.mem_map.mpr ⟨p, e, rfl⟩)
/-- l.extend(e), l the first of one's own -/
theorem hasS_extend {K : PySem.W.Frag} {n : Nat} {l : Addr} (hg : Γ[n]? = some (some (tyV (.ref l)))) (h : HasE C c te Γ (tyD C (.list es))) (hz : ds.length + es.length ≤ 100000) (hK : K = C.K) (hb : B Γ ((l, ds ++ es) :: A)) :
    HasS C c (tDrop (tBM K "list" rExtend (tVar n) (tCons te tNil))) Γ ((l, ds) :: A) B R := fun M0 H0 N k σ H D a q r => by
  subst hK
  obtain ⟨v, e1, e2⟩ := a.sat.2 n _ hg
  have e2 : v = .ref l := e2
  subst e2
  obtain ⟨_, hn, xs, hx, hr⟩ := a.own (l, ds) (List.mem_cons_self ..)
  refine ⟨.ref l, e1, .inl ⟨rfl, _, sqL_of hx⟩, h _ k σ H _ a.ok a.sat fun y H1 g1 o1 p => ?_⟩
  have a1 := a.gos g1 o1
  have hx1 : H1 l = some (.lst xs) := g1.at (fun z => hn (a.ok0.sub _ z)) hx (fun ps z => by cases z)
  have hr1 := hr.ext (g1.k a.ok)
  obtain ⟨b2, zs, eb, hb2, rz⟩ := d_lst p
  refine ⟨l, b2, xs, zs, rfl, by rw [eb], hx1, (hide_some hb2).2, ?_, q _ _ _ _ hb (own_put a1 (List.mem_cons_self ..) hx1 (dA_app hr1 rz) rfl fun p hp => ?_)⟩
  · rw [dA_len hr, dA_len rz]; exact small_line hz
  · rcases List.mem_cons.mp hp with e | e
    · exact .inl e
    · refine .inr ⟨fun z => ?_, List.mem_cons_of_mem _ e⟩
      have nd := List.nodup_cons.mp a.nd
      exact nd.1 (by rw [← z]; exact List.mem_map.mpr ⟨p, e, rfl⟩)
end
end Q6
end
section
set_option maxHeartbeats 4000000
/-! Loops and comprehensions over data. -/
namespace Q6
open PySem PySem.Spec PyProof.Rows L2 LamX RZ
/-! ### targets -/
theorem wipe_set {σ : L2.St} {i : Nat} {x : Option V} : ∀ {vs : List Nat}, i ∈ vs → wipe (σ.set i x) vs = wipe σ vs
  | v :: vs, h => by
    show (wipe (σ.set i x) vs).set v none = (wipe σ vs).set v none
    by_cases e : i ∈ vs
    · rw [wipe_set e]
    · have hv : i = v := by
        rcases List.mem_cons.mp h with z | z
        · exact z
        · exact absurd z e
      subst hv
      apply List.ext_getElem?
      intro j
      have hl : ∀ τ : L2.St, (wipe τ vs).length = τ.length := fun τ => wipe_length τ vs
      by_cases q : i = j
      · subst q
        by_cases hlt : i < σ.length
        · rw [List.getElem?_set_self (by rw [hl]; simpa using hlt), List.getElem?_set_self (by rw [hl]; exact hlt)]
        · rw [List.getElem?_eq_none (by simp [hl]; omega), List.getElem?_eq_none (by simp [hl]; omega)]
      · rw [List.getElem?_set_ne q, List.getElem?_set_ne q]
        by_cases hj : j ∈ vs
        · have : ∀ τ : L2.St, ∀ ws : List Nat, j ∈ ws → j < τ.length → (wipe τ ws)[j]? = some none := by
            intro τ ws
            induction ws with
            | nil => intro h; cases h
            | cons w ws ih =>
              intro h hlt
              show ((wipe τ ws).set w none)[j]? = _
              by_cases z : w = j
              · subst z; rw [List.getElem?_set_self (by rw [wipe_length]; exact hlt)]
              · rw [List.getElem?_set_ne z]
                exact ih (by
                  rcases List.mem_cons.mp h with y | y
                  · exact absurd y.symm z
                  · exact y) hlt
          by_cases hlt : j < σ.length
          · rw [this _ _ hj (by simpa using hlt), this _ _ hj hlt]
          · rw [List.getElem?_eq_none (by rw [wipe_length]; simp; omega), List.getElem?_eq_none (by rw [wipe_length]; omega)]
        · rw [wipe_out hj, wipe_out hj, List.getElem?_set_ne q]
/-- a target's store: the slots of ws change -/
def HasG (C : Cf) (g : TG) (ws : List Nat) (Γ : Cxt) (d : PyData) (Δ : Cxt) : Prop := ∀ (M : List Addr) (σ : L2.St) (H : Hp) (v : V) (Q : L2.St → Hp → Prop), Sat Γ σ (hide M H) → Dq C (hide M H) v d → (∀ σ', Sat Δ σ' (hide M H) → (∀ vs, (∀ i ∈ ws, i ∈ vs) → wipe σ' vs = wipe σ vs) → Q σ' H) → g v σ H Q
def HasGs (C : Cf) (g : TGs) (ws : List Nat) (Γ : Cxt) (ds : List PyData) (Δ : Cxt) : Prop := ∀ (M : List Addr) (σ : L2.St) (H : Hp) (xs : List V) (Q : L2.St → Hp → Prop), Sat Γ σ (hide M H) → DqAll C (hide M H) xs ds → (∀ σ', Sat Δ σ' (hide M H) → (∀ vs, (∀ i ∈ ws, i ∈ vs) → wipe σ' vs = wipe σ vs) → Q σ' H) → g xs σ H Q
section
variable {C : Cf} {Γ Δ Γ1 : Cxt} {ta tb te : TE} {τ τ' τ2 : Ty} {d e : PyData} {ds es : List PyData} {i j : Nat} {t u : TT} {b b' : Bool} {c c1 c2 c3 k : Nat} {A A1 : Own} {B B' : Post} {R : Res} {t1 t2 ts us rest : TS} {ws ws2 : List Nat} {g : TG} {gs : TGs}
theorem g_name : HasG C (gName i) [i] Γ d (Γ.set i (some (tyD C d))) := fun M σ H v Q st p q => q _ (st.set p) fun vs h => wipe_set (h i (by simp))
theorem gs_nil : HasGs C gNil [] Γ [] Γ := fun M σ H xs Q st p q => by
  cases p
  exact ⟨rfl, q σ st fun _ _ => rfl⟩
theorem gs_cons (h1 : HasG C g ws Γ d Δ) (h2 : HasGs C gs ws2 Δ ds Γ1) : HasGs C (gCons g gs) (ws ++ ws2) Γ (d :: ds) Γ1 := fun M σ H xs Q st p q => by
  cases p with
  | cons p r => exact ⟨_, _, rfl, h1 M σ H _ _ st p fun σ1 s1 w1 => h2 M σ1 H _ _ s1 r fun σ2 s2 w2 => q σ2 s2 fun vs h => (w2 vs fun i hi => h i (List.mem_append_right _ hi)).trans (w1 vs fun i hi => h i (List.mem_append_left _ hi))⟩
theorem g_tup {n : Nat} (h : HasGs C gs ws Γ ds Δ) (hn : ds.length = n) : HasG C (gTup C.K n gs) ws Γ (.tuple ds) Δ := fun M σ H v Q st p q => by
  obtain ⟨a, xs, e, hs, r⟩ := d_tup p
  exact ⟨a, xs, e, sqT_of (hide_some hs).2, by rw [dA_len r, hn], h M σ H xs Q st r q⟩
theorem g_seq {n : Nat} (h : HasGs C gs ws Γ ds Δ) (e1 : seqD d = some ds) (hn : ds.length = n) : HasG C (gSeq C.K n gs) ws Γ d Δ := fun M σ H v Q st p q => by
  obtain ⟨a, xs, e, hs, r⟩ := d_seq p e1
  rcases hs with hs | hs
  · exact .inr ⟨a, xs, e, sqL_of (hide_some hs).2, by rw [dA_len r, hn], h M σ H xs Q st r q⟩
  · exact .inl ⟨a, xs, e, sqT_of (hide_some hs).2, by rw [dA_len r, hn], h M σ H xs Q st r q⟩
/-- x, y = e -/
theorem hasS_asg (h : HasE C c te Γ (tyD C d)) (hg : HasG C g ws Γ d Δ) (hb : B Δ A) : HasS C c (tAsg te g) Γ A B R := fun M0 H0 N k σ H D a q r =>
  h _ k σ H _ a.ok a.sat fun v H1 g1 o1 p => hg _ σ H1 v _ (a.sat.ext (g1.k a.ok)) p fun σ' s' _ => q _ _ _ _ hb (a.step g1 o1 s')
theorem hasS_seq_asg (h : HasE C c1 te Γ (tyD C d)) (hg : HasG C g ws Γ d Δ) (hr : HasS C c2 rest Δ A B R) : HasS C (c1 + c2) (tSeq (tAsg te g) rest) Γ A B R := hasS_seq (hasS_asg h hg to_here) hr
/-- x, y = a, b -/
theorem hasS_seq_par {ta : TA} {x y : PyData} (h : HasA C c1 ta Γ (fun l => l = [x, y])) (hr : HasS C c2 rest ((Γ.set i (some (tyD C x))).set j (some (tyD C y))) A B R) : HasS C (c1 + c2) (tSeq (tPar i j ta) rest) Γ A B R := fun M0 H0 N k σ H D a q r =>
  h _ (k + c2) σ H _ (a.le (by omega) : At0 C _ M0 H0 N A Γ σ H).ok a.sat fun vs H1 ds g1 o1 e p => by
    subst e
    cases p with
    | cons p1 p =>
      cases p with
      | cons p2 p =>
        cases p
        exact ⟨_, _, rfl, hr M0 H0 N k _ _ D (a.step g1 o1 (((a.sat.ext (g1.k a.ok)).set p1).set p2)) q r⟩
end
/-! ### what is walked -/
/-- turns of a loop over these data; N: where they stand -/
def Walks (C : Cf) (N : Hp) (ds : List PyData) (J : It) : Prop := ∀ M : List Addr, Walk J ds.length (fun H => ExtN N (hide M H) ∧ ∀ a ∈ M, ∃ xs, H a = some (.lst xs)) (fun i H x H' => (H' = H ∨ ∃ T o, H T = none ∧ H' = upd H T o) ∧ ∃ d, ds[i]? = some d ∧ Dq C (hide M H') x d)
def HasI (C : Cf) (c : Nat) (wi : TI) (Γ : Cxt) (P : List PyData → Prop) : Prop := ∀ (M : List Addr) (k : Nat) (σ : L2.St) (H : Hp) (R : It → Hp → Prop), Ok C (k + c) M H → Sat Γ σ (hide M H) → (∀ J H1 ds, go C H H1 → Ok C k M H1 → P ds → Walks C (hide M H1) ds J → R J H1) → wi σ H R
section
variable {C : Cf} {Γ Δ Γ1 : Cxt} {ta tb te : TE} {τ τ' τ2 : Ty} {d e : PyData} {ds es : List PyData} {i j : Nat} {t u : TT} {b b' : Bool} {c c1 c2 c3 k : Nat} {A A1 : Own} {B B' : Post} {R : Res} {t1 t2 ts us rest : TS} {ws ws2 : List Nat} {g : TG} {gs : TGs} {N : Hp}
theorem walks_list {a : Addr} {xs : List V} (h : N a = some (.lst xs)) (r : DqAll C N xs ds) : Walks C N ds (Itl C.K a) := fun M => by
  rw [← dA_len r]
  refine walk_list.mono (fun H x => sqL_of (hide_some (x.1 a _ h fun ps z => by cases z)).2) fun i H x H' hi x1 y => ?_
  obtain ⟨e1, e2⟩ := y
  obtain ⟨d, h1, h2⟩ := dA_get r e2
  exact ⟨.inl e1, d, h1, by rw [e1]; exact h2.ext x1.1⟩
theorem walks_tup {a : Addr} {xs : List V} (h : N a = some (.tup xs)) (r : DqAll C N xs ds) : Walks C N ds (Itt C.K a) := fun M => by
  rw [← dA_len r]
  refine walk_tup.mono (fun H x => sqT_of (hide_some (x.1 a _ h fun ps z => by cases z)).2) fun i H x H' hi x1 y => ?_
  obtain ⟨e1, e2⟩ := y
  obtain ⟨d, h1, h2⟩ := dA_get r e2
  exact ⟨.inl e1, d, h1, by rw [e1]; exact h2.ext x1.1⟩
theorem pair_new {M : List Addr} {H : Hp} {T : Addr} {x y : V} (m : ∀ a ∈ M, ∃ xs, H a = some (.lst xs)) (n : H T = none) (hx : Dq C (hide M H) x d) (hy : Dq C (hide M H) y e) : Dq C (hide M (upd H T (.tup [x, y]))) (.ref T) (.tuple [d, e]) := by
  have hT : T ∉ M := fun z => by
    obtain ⟨xs, q⟩ := m T z
    rw [n] at q; cases q
  have k : ExtN (hide M H) (hide M (upd H T (.tup [x, y]))) := hide_ext fun b o nb eb _ => ⟨nb, by rw [upd_ne fun z => by rw [z, n] at eb; cases eb]; exact eb⟩
  exact .tup (by rw [hide_out hT]; exact upd_same) (.cons (hx.ext k) (.cons (hy.ext k) .nil))
theorem walks_enum {a : Addr} {xs : List V} (h : N a = some (.lst xs)) (r : DqAll C N xs ds) : Walks C N (ds.zipIdx.map fun p => .tuple [.int (p.2 : Nat), p.1]) (Ite C.K a) := fun M => by
  have hl : (ds.zipIdx.map fun p => PyData.tuple [.int (p.2 : Nat), p.1]).length = xs.length := by simp [dA_len r]
  rw [hl]
  refine walk_enum.mono (fun H x => sqL_of (hide_some (x.1 a _ h fun ps z => by cases z)).2) fun i H x H' hi x1 y => ?_
  obtain ⟨T, x2, y2, e1, e2, e3, e4, e5⟩ := y
  cases e4
  obtain ⟨d, h1, h2⟩ := dA_get r e5
  subst e1 e3
  exact ⟨.inr ⟨T, _, e2, rfl⟩, _, by simp [List.getElem?_zipIdx, h1], pair_new x1.2 e2 (.int _) (h2.ext x1.1)⟩
theorem walks_zip {a b : Addr} {xs ys : List V} (h : N a = some (.lst xs)) (r : DqAll C N xs ds) (h' : N b = some (.lst ys)) (r' : DqAll C N ys es) : Walks C N ((ds.zip es).map fun p => .tuple [p.1, p.2]) (Itz C.K a b) := fun M => by
  have hl : ((ds.zip es).map fun p => PyData.tuple [p.1, p.2]).length = min xs.length ys.length := by simp [dA_len r, dA_len r']
  rw [hl]
  refine (walk_zip (xs := xs) (ys := ys) rfl).mono (fun H x => ⟨sqL_of (hide_some (x.1 a _ h fun ps z => by cases z)).2, sqL_of (hide_some (x.1 b _ h' fun ps z => by cases z)).2⟩) fun i H x H' hi x1 y => ?_
  obtain ⟨T, x2, y2, e1, e2, e3, e4, e5⟩ := y
  obtain ⟨d, h1, h2⟩ := dA_get r e4
  obtain ⟨d', h3, h4⟩ := dA_get r' e5
  subst e1 e3
  exact ⟨.inr ⟨T, _, e2, rfl⟩, _, by simp [List.getElem?_zip_eq_some, h1, h3, List.zip, List.getElem?_zipWith], pair_new x1.2 e2 (h2.ext x1.1) (h4.ext x1.1)⟩
theorem walk_zipT {K : PySem.W.Frag} {a b : Addr} {xs ys : List V} {n : Nat} (hn : n = min xs.length ys.length) : Walk (ItzT K a b) n (fun H => SqT K H a xs ∧ SqT K H b ys) (YPair (fun i => xs[i]?) (fun i => ys[i]?)) := by
  subst hn
  refine ⟨fun i _ hi q => ?_, fun _ q => ⟨xs, ys, q.1, q.2, by omega⟩, fun i H v H' _ q y => ?_⟩
  · have h1 : i < xs.length := by omega
    have h2 : i < ys.length := by omega
    exact ⟨xs, ys, xs[i], ys[i], q.1, q.2, by simp [h1], by simp [h2]⟩
  · obtain ⟨T, x, y, h1, h2, h3, h4, h5⟩ := y
    exact ⟨T, x, y, h1, h2, h3, h4 xs q.1, h5 ys q.2⟩
theorem walks_zipT {a b : Addr} {xs ys : List V} (h : N a = some (.tup xs)) (r : DqAll C N xs ds) (h' : N b = some (.tup ys)) (r' : DqAll C N ys es) : Walks C N ((ds.zip es).map fun p => .tuple [p.1, p.2]) (ItzT C.K a b) := fun M => by
  have hl : ((ds.zip es).map fun p => PyData.tuple [p.1, p.2]).length = min xs.length ys.length := by simp [dA_len r, dA_len r']
  rw [hl]
  refine (walk_zipT (xs := xs) (ys := ys) rfl).mono (fun H x => ⟨sqT_of (hide_some (x.1 a _ h fun ps z => by cases z)).2, sqT_of (hide_some (x.1 b _ h' fun ps z => by cases z)).2⟩) fun i H x H' hi x1 y => ?_
  obtain ⟨T, x2, y2, e1, e2, e3, e4, e5⟩ := y
  obtain ⟨d, h1, h2⟩ := dA_get r e4
  obtain ⟨d', h3, h4⟩ := dA_get r' e5
  subst e1 e3
  exact ⟨.inr ⟨T, _, e2, rfl⟩, _, by simp [List.getElem?_zip_eq_some, h1, h3, List.zip, List.getElem?_zipWith], pair_new x1.2 e2 (h2.ext x1.1) (h4.ext x1.1)⟩
theorem walks_range {n : Nat} : Walks C N ((List.range n).map fun i => .int (i : Nat)) (Itr 0 n) := fun M => by
  have hl : ((List.range n).map fun i => PyData.int (i : Nat)).length = n := by simp
  rw [hl]
  refine walk_range.mono (fun H x => trivial) fun i H x H' hi x1 y => ?_
  obtain ⟨e1, e2⟩ := y
  subst e1 e2
  exact ⟨.inl rfl, .int (i : Nat), by simp [hi], by show Dq C _ (.int (0 + (i : Int))) _; rw [Int.zero_add]; exact .int _⟩
/-! the walked things -/
theorem i_seq (h : HasE C c te Γ (tyD C d)) (e1 : seqD d = some ds) : HasI C c (iSeq C.K te) Γ (fun l => l = ds) := fun M k σ H R ok st q =>
  h M k σ H _ ok st fun v H1 g1 o1 p => by
    obtain ⟨a, xs, e, hs, r⟩ := d_seq p e1
    refine ⟨a, e, ?_⟩
    rcases hs with hs | hs
    · exact .inl ⟨⟨xs, sqL_of (hide_some hs).2⟩, q _ _ ds g1 o1 rfl (walks_list hs r)⟩
    · exact .inr ⟨⟨xs, sqT_of (hide_some hs).2⟩, q _ _ ds g1 o1 rfl (walks_tup hs r)⟩
theorem i_seqP {P : PyData → Prop} {L : List PyData → Prop} (h : HasE C c te Γ (tyP C P)) (e1 : ∀ d, P d → ∃ ds, seqD d = some ds ∧ L ds) : HasI C c (iSeq C.K te) Γ L := fun M k σ H R ok st q =>
  h M k σ H _ ok st fun v H1 g1 o1 ⟨d, hd, p⟩ => by
    obtain ⟨ds, e2, hl⟩ := e1 d hd
    obtain ⟨a, xs, e, hs, r⟩ := d_seq p e2
    refine ⟨a, e, ?_⟩
    rcases hs with hs | hs
    · exact .inl ⟨⟨xs, sqL_of (hide_some hs).2⟩, q _ _ ds g1 o1 hl (walks_list hs r)⟩
    · exact .inr ⟨⟨xs, sqT_of (hide_some hs).2⟩, q _ _ ds g1 o1 hl (walks_tup hs r)⟩
theorem i_enum (h : HasE C c te Γ (tyD C (.list ds))) : HasI C c (iEnum C.K (tCons te tNil)) Γ (fun l => l = ds.zipIdx.map fun p => .tuple [.int (p.2 : Nat), p.1]) := fun M k σ H R ok st q =>
  h M k σ H _ ok st fun v H1 g1 o1 p => by
    obtain ⟨a, xs, e, hs, r⟩ := d_lst p
    exact ⟨a, xs, by rw [e], sqL_of (hide_some hs).2, q _ _ _ g1 o1 rfl (walks_enum hs r)⟩
/-- the two are lists, or tuples -/
def sameSeq : PyData → PyData → Bool
  | .list _, .list _ => true
  | .tuple _, .tuple _ => true
  | _, _ => false
theorem i_zip (ha : HasE C c1 ta Γ (tyD C d)) (hb : HasE C c2 tb Γ (tyD C e)) (e1 : seqD d = some ds) (e2 : seqD e = some es) (hs : sameSeq d e = true) : HasI C (c1 + c2) (iZipA C.K (tCons ta (tCons tb tNil))) Γ (fun l => l = (ds.zip es).map fun p => .tuple [p.1, p.2]) := fun M k σ H R ok st q =>
  has2 ha hb ok st fun x y H' g o p1 p2 => by
    cases p1 with
    | @lst a xs es1 h r =>
      cases p2 with
      | @lst b ys es2 h' r' => cases e1; cases e2; exact ⟨_, _, _, _, rfl, .inl ⟨sqL_of (hide_some h).2, sqL_of (hide_some h').2, q _ _ _ g o rfl (walks_zip h r h' r')⟩⟩
      | _ => cases hs
    | @tup a xs es1 h r =>
      cases p2 with
      | @tup b ys es2 h' r' => cases e1; cases e2; exact ⟨_, _, _, _, rfl, .inr ⟨sqT_of (hide_some h).2, sqT_of (hide_some h').2, q _ _ _ g o rfl (walks_zipT h r h' r')⟩⟩
      | _ => cases hs
    | _ => cases hs
theorem i_range {n : Nat} (h : HasE C c te Γ (tyD C (.int n))) (hz : n ≤ 100000) : HasI C c (iRng1 (tCons te tNil)) Γ (fun l => l = (List.range n).map fun i => .int (i : Nat)) := fun M k σ H R ok st q =>
  h M k σ H _ ok st fun v H1 g1 o1 p => ⟨n, by rw [d_int p], by omega, by omega, by
    rw [show ((n : Int)).toNat = n by simp]
    exact q _ _ _ g1 o1 rfl walks_range⟩
/-! for -/
theorem hasS_forP {Inv : List PyData → List PyData → Post} {L : List PyData → Prop} {c n : Nat} {wi : TI} {tb : TS} (hi : HasI C c1 wi Γ L) (hn : ∀ ds, L ds → ds.length ≤ n) (h0 : ∀ ds, L ds → Inv ds [] Γ A)
    (hA : ∀ ds pre Γ' A', L ds → Inv ds pre Γ' A' → A'.map (·.1) = A.map (·.1))
    (hs : ∀ ds pre x suf Γ' A', L ds → ds = pre ++ x :: suf → Inv ds pre Γ' A' → ∃ ws Δ, HasG C g ws Γ' x Δ ∧ HasS C c tb Δ A' (Inv ds (pre ++ [x])) R)
    (hb : ∀ ds Γ' A', L ds → Inv ds ds Γ' A' → B Γ' A') : HasS C (c1 + n * c) (tFor wi g tb) Γ A B R := fun M0 H0 N k σ H D a q r =>
  hi _ (k + n * c) σ H _ (a.le (by omega) : At0 C _ M0 H0 N A Γ σ H).ok a.sat fun J H1 ds g1 o1 hL w => by
    have a1 := a.gos g1 o1
    have hn := hn ds hL
    refine for_it (w (A.map (·.1) ++ M0)) (fun i σ H => ∃ Γ' A', Inv ds (ds.take i) Γ' A' ∧ At0 C (k + (n - i) * c) M0 H0 (hide (A.map (·.1) ++ M0) H1) A' Γ' σ H ∧ ExtN N (hide (A.map (·.1) ++ M0) H)) ?_ ?_ ?_ ?_
    · exact ⟨Γ, A, by simpa using h0 ds hL, ⟨by simpa using a1.ok, by simpa using a1.ok0, a1.gone, ExtN.refl _, a1.own, a1.nd, a1.sat⟩, a1.kept⟩
    · rintro i σ2 H2 hi ⟨Γ', A', iv, a2, _⟩
      have e := hA _ _ _ _ hL iv
      have kk := a2.kept
      rw [e] at kk
      exact ⟨kk, by rw [← e]; exact a2.ok.dom⟩
    · rintro i x σ2 H2 H3 hi ⟨Γ', A', iv, a2, kN⟩ ⟨hh, d, hd, p⟩
      have e := hA _ _ _ _ hL iv
      have g3 : go C H2 H3 ∧ Ok C (k + (n - i) * c) (A'.map (·.1) ++ M0) H3 := by
        rcases hh with z | ⟨T, o, hT, z⟩
        · subst z; exact ⟨go.refl _, a2.ok⟩
        · subst z; exact ⟨go.new hT, a2.ok.new hT⟩
      have a3 := a2.gos g3.1 g3.2
      rw [← e] at p
      have hsplit : ds = ds.take i ++ d :: ds.drop (i + 1) := by
        have hlt : i < ds.length := hi
        have : ds[i] = d := by
          rw [List.getElem?_eq_getElem hlt] at hd; exact Option.some.inj hd
        rw [← this, List.getElem_cons_drop, List.take_append_drop]
      have htake : ds.take i ++ [d] = ds.take (i + 1) := by
        rw [List.take_succ, hd]; rfl
      obtain ⟨ws, Δ, hg, hbody⟩ := hs ds (ds.take i) d (ds.drop (i + 1)) Γ' A' hL hsplit iv
      refine hg _ σ2 H3 x _ a3.sat p fun σ3 s3 _ => ?_
      have hc : (n - i) * c = (n - (i + 1)) * c + c := by
        have : n - i = (n - (i + 1)) + 1 := by omega
        rw [this, Nat.add_mul, Nat.one_mul]
      have nx : ∀ Γ4 A4 σ4 H4, Inv ds (ds.take i ++ [d]) Γ4 A4 → At0 C (k + (n - (i + 1)) * c) M0 H0 (hide (A'.map (·.1) ++ M0) H3) A4 Γ4 σ4 H4 → ∃ Γ' A', Inv ds (ds.take (i + 1)) Γ' A' ∧ At0 C (k + (n - (i + 1)) * c) M0 H0 (hide (A.map (·.1) ++ M0) H1) A' Γ' σ4 H4 ∧ ExtN N (hide (A.map (·.1) ++ M0) H4) := fun Γ4 A4 σ4 H4 iv4 a4 => by
        have e4 := hA _ _ _ _ hL iv4
        have kk := a4.kept
        refine ⟨Γ4, A4, by rw [← htake]; exact iv4, ⟨a4.ok, a4.ok0, a4.gone, ?_, a4.own, a4.nd, a4.sat⟩, ?_⟩
        · exact a3.kept.trans kk
        · rw [e4] at kk; rw [e] at kk
          exact (kN.trans (by have := g3.1.k a2.ok; rw [e] at this; exact this)).trans kk
      have body := hbody M0 H0 (hide (A'.map (·.1) ++ M0) H3) (k + (n - (i + 1)) * c) σ3 H3 { D with nx := fun σ' H' => ∃ Γ' A', Inv ds (ds.take (i + 1)) Γ' A' ∧ At0 C (k + (n - (i + 1)) * c) M0 H0 (hide (A.map (·.1) ++ M0) H1) A' Γ' σ' H' ∧ ExtN N (hide (A.map (·.1) ++ M0) H'), ct := fun σ' H' => ∃ Γ' A', Inv ds (ds.take (i + 1)) Γ' A' ∧ At0 C (k + (n - (i + 1)) * c) M0 H0 (hide (A.map (·.1) ++ M0) H1) A' Γ' σ' H' ∧ ExtN N (hide (A.map (·.1) ++ M0) H'), bk := D.nx }
      refine body ?_ nx fun v H' g o x => r v H' g (o.le (by omega)) x
      have a5 : At0 C (k + (n - i) * c) M0 H0 (hide (A'.map (·.1) ++ M0) H3) A' Δ σ3 H3 := ⟨a3.ok, a3.ok0, a3.gone, ExtN.refl _, a3.own, a3.nd, s3⟩
      exact a5.le (by omega)
    · rintro σ2 H2 ⟨Γ', A', iv, a2, kN⟩
      rw [List.take_of_length_le (Nat.le_refl _)] at iv
      have e := hA _ _ _ _ hL iv
      refine q _ _ _ _ (hb ds Γ' A' hL iv) ((⟨a2.ok, a2.ok0, a2.gone, by rw [e]; exact kN, a2.own, a2.nd, a2.sat⟩ : At0 C _ M0 H0 N A' Γ' σ2 H2).le (by omega))
theorem g_wk (w : Wk Γ Δ) {ws : List Nat} (h : HasG C g ws Δ d Γ1) : HasG C g ws Γ d Γ1 := fun M σ H v Q st p q => h M σ H v Q (st.wk w) p q
/-- over data known, by what is known at each turn -/
theorem hasS_for {α : Type} (xs : List α) (enc : α → PyData) (Γi : List α → Cxt) (Ai : List α → Own) {c : Nat} {wi : TI} {tb : TS} (hi : HasI C c1 wi Γ (fun l => l = xs.map enc)) (h0 : Wk Γ (Γi [])) (a0 : A = Ai []) (hA : ∀ pre, (Ai pre).map (·.1) = A.map (·.1))
    (hs : ∀ pre x suf, xs = pre ++ x :: suf → ∃ ws Δ, HasG C g ws (Γi pre) (enc x) Δ ∧ HasS C c tb Δ (Ai pre) (to (Γi (pre ++ [x])) (Ai (pre ++ [x]))) R)
    (hb : ∀ Γ', Wk Γ' (Γi xs) → B Γ' (Ai xs)) : HasS C (c1 + xs.length * c) (tFor wi g tb) Γ A B R := by
  refine hasS_forP (Inv := fun _ pre' Γ' A' => ∃ pre suf, xs = pre ++ suf ∧ pre' = pre.map enc ∧ to (Γi pre) (Ai pre) Γ' A') hi (fun ds e => by rw [e]; simp) (fun ds e => ⟨[], xs, rfl, rfl, h0, a0⟩) ?_ ?_ ?_
  · rintro ds pre' Γ' A' e ⟨pre, suf, _, _, _, e2⟩
    rw [e2]; exact hA pre
  · rintro ds pre' x' suf' Γ' A' e e1 ⟨pre, suf, e2, e3, w, e4⟩
    subst e3 e4
    rw [e, e2, List.map_append] at e1
    have e5 := List.append_cancel_left e1
    cases suf with
    | nil => cases e5
    | cons x suf =>
      rw [List.map_cons] at e5
      cases e5
      obtain ⟨ws, Δ, h1, h2⟩ := hs pre x suf e2
      exact ⟨ws, Δ, g_wk w h1, hasS_to h2 fun Γ'' A'' ⟨w2, e6⟩ => ⟨pre ++ [x], suf, by rw [e2]; simp, by simp, w2, e6⟩⟩
  · rintro ds Γ' A' e ⟨pre, suf, e2, e3, w, e4⟩
    subst e4
    have : pre = xs := by
      have hl := congrArg List.length e3
      rw [e] at hl
      have h2 := congrArg List.length e2
      simp at hl h2
      have : suf = [] := List.eq_nil_of_length_eq_zero (by omega)
      rw [e2, this, List.append_nil]
    subst this
    exact hb Γ' w
end
end Q6
end
section
set_option maxHeartbeats 4000000
/-! Comprehensions and built-ins over data. -/
namespace Q6
open PySem PySem.Spec PyProof.Rows L2 LamX RZ
/-- the block's own slots are not known -/
def wipeC (Γ : Cxt) : List Nat → Cxt
  | [] => Γ
  | v :: vs => (wipeC Γ vs).set v none
theorem sat_wipe {Γ : Cxt} {σ : L2.St} {H : Hp} (s : Sat Γ σ H) : ∀ vs : List Nat, Sat (wipeC Γ vs) (wipe σ vs) H
  | [] => s
  | v :: vs => (sat_wipe s vs).forget
section
variable {C : Cf} {Γ Δ Γ1 : Cxt} {ta tb te : TE} {τ τ' τ2 : Ty} {d e : PyData} {ds es : List PyData} {i j : Nat} {t u tt : TT} {b b' : Bool} {c c1 c2 c3 k : Nat} {A A1 : Own} {B B' : Post} {R : Res} {t1 t2 ts us rest : TS} {ws ws2 vs : List Nat} {g : TG} {gs : TGs} {N : Hp} {wi : TI}
/-- a comprehension: what is made by each turn is of the kind Z -/
theorem has_lcP {Inv : List PyData → List PyData → List PyData → Prop} {L : List PyData → Prop} {P : PyData → Prop} {n : Nat} (hi : HasI C c1 wi Γ L) (hn : ∀ ds, L ds → ds.length ≤ n ∧ n ≤ 100000) (h0 : ∀ ds, L ds → Inv ds [] [])
    (hs : ∀ ds pre x suf acc, L ds → ds = pre ++ x :: suf → Inv ds pre acc → ∃ ws Δ S Z, HasG C g ws (wipeC Γ vs) x Δ ∧ (∀ i ∈ ws, i ∈ vs) ∧ HasT C c2 tt Δ S ∧ (S true → HasE C c te Δ (tyP C Z)) ∧ (S true → ∀ y, Z y → Inv ds (pre ++ [x]) (acc ++ [y])) ∧ (S false → Inv ds (pre ++ [x]) acc))
    (hb : ∀ ds acc, L ds → Inv ds ds acc → P (.list acc)) : HasE C (c1 + n * (c2 + c)) (tLc wi g tt te vs) Γ (tyP C P) := fun M k σ H Q ok st q =>
  hi M (k + n * (c2 + c)) σ H _ (ok.le (by omega)) st fun J H1 ds g1 o1 hL w D hD => by
    obtain ⟨hn, hnz⟩ := hn ds hL
    have st1 := st.ext (g1.k ok)
    refine lc_it (w (D :: M)) (fun i H => ∃ acc xs, Inv ds (ds.take i) acc ∧ acc.length ≤ i ∧ Ok C (k + (n - i) * (c2 + c)) M H ∧ go C H1 H ∧ ExtN (hide M H1) (hide (D :: M) H) ∧ H D = some (.lst xs) ∧ DqAll C (hide (D :: M) H) xs acc) ?_ ?_ ?_ ?_
    · refine ⟨[], [], by simpa using h0 ds hL, Nat.le_refl _, by simpa using o1.new hD, go.new hD, ?_, upd_same, .nil⟩
      exact hide_ext fun b o nb eb _ => by
        have : b ≠ D := fun z => by rw [z, hD] at eb; cases eb
        exact ⟨fun z => by
          rcases List.mem_cons.mp z with z | z
          · exact this z
          · exact nb z, by rw [upd_ne this]; exact eb⟩
    · rintro i H2 hi ⟨acc, xs, iv, ha, o2, g2, k2, hx, r⟩
      exact ⟨k2, (o2.cons hx).dom⟩
    · rintro i x H2 H3 hi ⟨acc, xs, iv, ha, o2, g2, k2, hx, r⟩ ⟨hh, d, hd, p⟩
      have oD := o2.cons hx
      have g3 : go C H2 H3 ∧ Ok C (k + (n - i) * (c2 + c)) (D :: M) H3 ∧ Ok C (k + (n - i) * (c2 + c)) M H3 := by
        rcases hh with z | ⟨T, o, hT, z⟩
        · subst z; exact ⟨go.refl _, oD, o2⟩
        · subst z; exact ⟨go.new hT, oD.new hT, o2.new hT⟩
      have hsplit : ds = ds.take i ++ d :: ds.drop (i + 1) := by
        have hlt : i < ds.length := hi
        have : ds[i] = d := by
          rw [List.getElem?_eq_getElem hlt] at hd; exact Option.some.inj hd
        rw [← this, List.getElem_cons_drop, List.take_append_drop]
      have htake : ds.take i ++ [d] = ds.take (i + 1) := by
        rw [List.take_succ, hd]; rfl
      have hDS : D ∉ C.S := fun z => o1.out hD (o1.sub _ z)
      obtain ⟨ws, Δ, S, Z, hg, hw, ht, he, hz, hf⟩ := hs ds (ds.take i) d (ds.drop (i + 1)) acc hL hsplit iv
      have kx := k2.trans (g3.1.k oD)
      refine hg (D :: M) (wipe σ vs) H3 x _ ((sat_wipe st1 vs).ext kx) p fun σ2 s2 w2 => ⟨?_, ?_⟩
      · rw [w2 vs hw]
        have : ∀ (ys : List Nat) (τ : L2.St), (∀ i ∈ ys, i < τ.length → τ[i]? = some none) → wipe τ ys = τ := by
          intro ys
          induction ys with
          | nil => intro τ _; rfl
          | cons y ys ih =>
            intro τ h
            show (wipe τ ys).set y none = τ
            rw [ih τ fun i hi => h i (List.mem_cons_of_mem _ hi)]
            apply List.ext_getElem?
            intro j
            by_cases q : y = j
            · subst q
              by_cases hlt : y < τ.length
              · rw [List.getElem?_set_self hlt, h y (List.mem_cons_self ..) hlt]
              · rw [List.getElem?_eq_none (by simpa using hlt), List.getElem?_eq_none (by omega)]
            · rw [List.getElem?_set_ne q]
        refine this vs _ fun i hi hlt => ?_
        have key : ∀ (ys : List Nat) (τ : L2.St), i ∈ ys → i < τ.length → (wipe τ ys)[i]? = some none := by
          intro ys
          induction ys with
          | nil => intro τ h; cases h
          | cons y ys ih =>
            intro τ h hlt
            show ((wipe τ ys).set y none)[i]? = _
            by_cases z : y = i
            · subst z; rw [List.getElem?_set_self (by rw [wipe_length]; exact hlt)]
            · rw [List.getElem?_set_ne z]
              exact ih τ (by
                rcases List.mem_cons.mp h with y | y
                · exact absurd y.symm z
                · exact y) hlt
        exact key vs σ hi (by rw [wipe_length] at hlt; exact hlt)
      · have hc : (n - i) * (c2 + c) = (n - (i + 1)) * (c2 + c) + (c2 + c) := by
          have : n - i = (n - (i + 1)) + 1 := by omega
          rw [this, Nat.add_mul, Nat.one_mul]
        have hk : k + (n - i) * (c2 + c) = (k + (n - (i + 1)) * (c2 + c) + c) + c2 := by omega
        refine ht (D :: M) (k + (n - (i + 1)) * (c2 + c) + c) σ2 H3 _ (by rw [← hk]; exact g3.2.1) s2 fun b H4 g4 o4 hS => ?_
        have hx4 : H4 D = some (.lst xs) := g4.at hDS (g3.1.at hDS hx (fun ps z => by cases z)) (fun ps z => by cases z)
        have r4 := (r.ext (g3.1.k oD)).ext (g4.k g3.2.1)
        have dropM : ∀ {kk : Nat} {H : Hp}, Ok C kk (D :: M) H → Ok C kk M H := fun o => ⟨fun b hb => o.dom b (List.mem_cons_of_mem _ hb), o.tabs, o1.sub, o.str⟩
        cases b with
        | true =>
          refine he hS (D :: M) (k + (n - (i + 1)) * (c2 + c)) σ2 H4 _ o4 (s2.ext (g4.k g3.2.1)) fun y H5 g5 o5 ⟨dy, hzy, py⟩ => ?_
          have hx5 : H5 D = some (.lst xs) := g5.at hDS hx4 (fun ps z => by cases z)
          have r5 := r4.ext (g5.k o4)
          refine ⟨xs, hx5, ?_, acc ++ [dy], xs ++ [y], by rw [← htake]; exact hz hS dy hzy, by rw [List.length_append]; simp; exact ha, ?_, ?_, ?_, upd_same, ?_⟩
          · rw [dA_len r]
            have : ds.length ≤ n := hn
            have : i < ds.length := hi
            exact Nat.lt_of_lt_of_le (show acc.length < 100000 by omega) (small_line (Nat.le_refl _))
          · have od := dropM (o5.upd hx5 hDS (ys := xs ++ [y])); exact od
          · have gg := ((g2.trans g3.1).trans g4).trans g5
            exact ⟨hide_ext fun b o nb eb t => ⟨nb, by rw [upd_ne fun z => by rw [z, hD] at eb; cases eb]; exact gg.at nb eb t⟩, fun _ => (o5.upd hx5 hDS (ys := xs ++ [y])).tabs⟩
          · rw [hide_upd (List.mem_cons_self ..)]
            exact (kx.trans (g4.k g3.2.1)).trans (g5.k o4)
          · rw [hide_upd (List.mem_cons_self ..)]
            exact dA_app r5 (dA_one py)
        | false =>
          exact ⟨acc, xs, by rw [← htake]; exact hf hS, by omega, (dropM o4).le (by omega), (g2.trans g3.1).trans g4, kx.trans (g4.k g3.2.1), hx4, r4⟩
    · rintro H2 ⟨acc, xs, iv, ha, o2, g2, k2, hx, r⟩
      rw [List.take_of_length_le (Nat.le_refl _)] at iv
      refine q _ H2 (g1.trans g2) (o2.le (by omega)) ⟨.list acc, hb ds acc hL iv, .lst ?_ (r.ext (ext_more fun b hb => List.mem_cons_of_mem _ hb))⟩
      rw [hide_out fun z => o1.out hD z]; exact hx
theorem mapK {α : Type} {enc : α → PyData} {xs : List α} {pre suf : List PyData} {x : PyData} (h : xs.map enc = pre ++ x :: suf) : ∃ p a s, xs = p ++ a :: s ∧ pre = p.map enc ∧ x = enc a := by
  obtain ⟨p, r, h1, h2, h3⟩ := List.map_eq_append_iff.mp h
  cases r with
  | nil => cases h3
  | cons a s => rw [List.map_cons] at h3; cases h3; exact ⟨p, a, s, h1, h2.symm, rfl⟩
/-- over data known: the kept ones, each as it is made -/
theorem has_lc {α : Type} (xs : List α) (enc : α → PyData) (keep : α → Bool) (out : α → PyData) (hi : HasI C c1 wi Γ (fun l => l = xs.map enc)) (hz : xs.length ≤ 100000)
    (hs : ∀ x, x ∈ xs → ∃ ws Δ, HasG C g ws (wipeC Γ vs) (enc x) Δ ∧ (∀ i ∈ ws, i ∈ vs) ∧ HasT C c2 tt Δ (fun b => b = keep x) ∧ (keep x = true → HasE C c te Δ (tyD C (out x)))) :
    HasE C (c1 + xs.length * (c2 + c)) (tLc wi g tt te vs) Γ (tyD C (.list ((xs.filter keep).map out))) := by
  refine has_sub (has_lcP (P := fun d => d = .list ((xs.filter keep).map out)) (Inv := fun _ pre acc => ∃ p s, xs = p ++ s ∧ pre = p.map enc ∧ acc = (p.filter keep).map out) hi (fun ds e => ⟨by rw [e]; simp, hz⟩) (fun ds e => ⟨[], xs, rfl, rfl, rfl⟩) ?_ ?_) fun v H ⟨d, e, r⟩ => by rw [e] at r; exact r
  · rintro ds pre' x' suf' acc e e1 ⟨p, s, e2, e3, e4⟩
    subst e3 e4
    rw [e, e2, List.map_append] at e1
    have e5 := List.append_cancel_left e1
    cases s with
    | nil => cases e5
    | cons x s =>
      rw [List.map_cons] at e5
      cases e5
      obtain ⟨ws, Δ, h1, h2, h3, h4⟩ := hs x (by rw [e2]; simp)
      refine ⟨ws, Δ, _, fun d => d = out x, h1, h2, h3, fun z => has_any (h4 z.symm) rfl, fun z y ey => ⟨p ++ [x], s, by rw [e2]; simp, by simp, ?_⟩, fun z => ⟨p ++ [x], s, by rw [e2]; simp, by simp, ?_⟩⟩
      · rw [List.filter_append, List.filter_cons_of_pos z.symm, ey]; simp
      · rw [List.filter_append, List.filter_cons_of_neg (by rw [← z]; decide)]; simp
  · rintro ds acc e ⟨p, s, e2, e3, e4⟩
    have : p = xs := by
      have hl := congrArg List.length e3
      rw [e] at hl
      have h2 := congrArg List.length e2
      simp at hl h2
      have : s = [] := List.eq_nil_of_length_eq_zero (by omega)
      rw [e2, this, List.append_nil]
    rw [e4, this]
theorem hast_yes : HasT C 0 tYes Γ (fun b => b = true) := fun M k σ H Q ok st q => q true H (go.refl H) ok rfl
/-- without a test -/
theorem has_map {α : Type} (xs : List α) (enc : α → PyData) (out : α → PyData) (hi : HasI C c1 wi Γ (fun l => l = xs.map enc)) (hz : xs.length ≤ 100000)
    (hs : ∀ x, x ∈ xs → ∃ ws Δ, HasG C g ws (wipeC Γ vs) (enc x) Δ ∧ (∀ i ∈ ws, i ∈ vs) ∧ HasE C c te Δ (tyD C (out x))) :
    HasE C (c1 + xs.length * (0 + c)) (tLc wi g tYes te vs) Γ (tyD C (.list (xs.map out))) := by
  have := has_lc xs enc (fun _ => true) out hi hz (c2 := 0) (c := c) (tt := tYes) (te := te) (g := g) (vs := vs) fun x hx => by
    obtain ⟨ws, Δ, h1, h2, h3⟩ := hs x hx
    exact ⟨ws, Δ, h1, h2, hast_yes, fun _ => h3⟩
  rwa [List.filter_eq_self.mpr fun _ _ => rfl] at this
/-- each turn makes one, of a kind (the draws) -/
theorem has_mapP {α : Type} (xs : List α) (enc : α → PyData) (Z : α → PyData → Prop) (hi : HasI C c1 wi Γ (fun l => l = xs.map enc)) {n : Nat} (hn : xs.length ≤ n) (hz : n ≤ 100000)
    (hs : ∀ x, x ∈ xs → ∃ ws Δ, HasG C g ws (wipeC Γ vs) (enc x) Δ ∧ (∀ i ∈ ws, i ∈ vs) ∧ HasE C c te Δ (tyP C (Z x))) :
    HasE C (c1 + n * (0 + c)) (tLc wi g tYes te vs) Γ (tyP C fun d => ∃ ys, d = .list ys ∧ Paired Z xs ys) := by
  refine has_lcP (Inv := fun _ pre acc => ∃ p s, xs = p ++ s ∧ pre = p.map enc ∧ Paired Z p acc) hi (fun ds e => ⟨by rw [e]; simpa using hn, hz⟩) (fun ds e => ⟨[], xs, rfl, rfl, .nil⟩) ?_ ?_
  · rintro ds pre' x' suf' acc e e1 ⟨p, s, e2, e3, e4⟩
    subst e3
    rw [e, e2, List.map_append] at e1
    have e5 := List.append_cancel_left e1
    cases s with
    | nil => cases e5
    | cons x s =>
      rw [List.map_cons] at e5
      cases e5
      obtain ⟨ws, Δ, h1, h2, h3⟩ := hs x (by rw [e2]; simp)
      refine ⟨ws, Δ, _, Z x, h1, h2, hast_yes, fun z => h3, fun z y hy => ⟨p ++ [x], s, by rw [e2]; simp, by simp, ?_⟩, fun z => by cases z⟩
      have : ∀ {p : List α} {acc : List PyData}, Paired Z p acc → Paired Z (p ++ [x]) (acc ++ [y]) := by
        intro p acc h
        induction h with
        | nil => exact .cons hy .nil
        | cons h _ ih => exact .cons h ih
      exact this e4
  · rintro ds acc e ⟨p, s, e2, e3, e4⟩
    have : p = xs := by
      have hl := congrArg List.length e3
      rw [e] at hl
      have h2 := congrArg List.length e2
      simp at hl h2
      have : s = [] := List.eq_nil_of_length_eq_zero (by omega)
      rw [e2, this, List.append_nil]
    subst this
    exact ⟨acc, rfl, e4⟩
end
end Q6
end
section
set_option maxHeartbeats 2000000
/-! isinstance of a def. -/
namespace Q6
open PySem PySem.Spec PyProof.Rows L2
theorem fn_lk : typeLookup (.type "function") "__class__" = pure (some (.builtin "object.__class__")) := by rw [typeLookup_type, builtinLookup_eq_fast]; kernel_rfl
theorem fn_so : isSubtype (.type "function") (.type (".".intercalate ("object.__class__".cutAt '.').dropLast)) = pure true := by rw [F.owner_object_class, isSubtype_type]; kernel_rfl
theorem fn_ga : Slot "function" "__getattribute__" "object.__getattribute__" := .of (owner := "object") (n := "__getattribute__") (by rw [typeLookup_type, builtinLookup_eq_fast]; kernel_rfl) (by decide +kernel) (by decide +kernel) (by decide +kernel) (by first | exact .inl (by decide +kernel) | exact .inr (by decide +kernel)) (by rw [isSubtype_type]; kernel_rfl)
theorem fn_entry : entryFor table "object.__getattribute__" = some Builtin.«object.__getattribute__» := entryFor_of_tree (by kernel_rfl)
theorem fn_args (a b : Value) : argsOk "object.__getattribute__" ⟨[a, b], []⟩ := by unfold argsOk; kernel_rfl
section
variable {prog : Program} {w : World} {A : Around} {E : Value → Shared → Prop} {h : Heap} {g : Array GenState} {d : Drawn} {t : Nat} {os : OsState} {a : Addr} {o : Obj}
theorem fn_call {tk : Tok} {R : Result → Shared → Prop} (hx : h.get? a = some o) (hc : o.cls = .type "function") (hq : R (.ok (.ret (.type "function"))) ⟨h, g, d, t, os⟩) : codeAny (model prog w) A (.call (.builtin "object.__getattribute__") ⟨[.ref a, .str "__class__" tk], []⟩) R ⟨h, g, d, t, os⟩ :=
  codeAny_call_builtin fn_ga.plain fn_entry (fn_ga.check _ _ _ _ _ _ _ _ (show (⟨h, g, d, t, os⟩ : Shared).TypeIs (.ref a) "function" from ⟨_, hx, hc⟩) (fn_args _ _) (class_entry_exc fn_lk fn_so (by decide) hx hc hq))
theorem fn_by {tk : Tok} {fill expr : Bool} {Q : Value → Shared → Prop} (hx : h.get? a = some o) (hc : o.cls = .type "function") (hq : Q (.type "function") ⟨h, g, d, t, os⟩) : wpAny (model prog w) A (getAttrBy (.ref a) (.str "__class__" tk) fill expr) Q E ⟨h, g, d, t, os⟩ := by
  have hT : (⟨h, g, d, t, os⟩ : Shared).TypeIs (.ref a) "function" := ⟨_, hx, hc⟩
  have f2 := fn_ga.lookup
  have f3 := fn_ga.bind (.ref a)
  have f0 : (expr && onTheHeap (Value.builtin "object.__getattribute__")) = false := by cases expr <;> rfl
  repeat (any_goals (first | assumption | wp_step))
  refine fn_call hx hc ?_
  repeat (any_goals (first | assumption | wp_step))
theorem fn_attr {Q : Option Value → Shared → Prop} (hx : h.get? a = some o) (hc : o.cls = .type "function") (hq : Q (some (.type "function")) ⟨h, g, d, t + 1, os⟩) : wpAny (model prog w) A (getAttr? (.ref a) "__class__") Q E ⟨h, g, d, t, os⟩ := by
  unfold getAttr? getAttrBy?
  repeat (any_goals (first | assumption | with_reducible apply fn_by hx hc | wp_step))
end
theorem kitx_fn {K : PySem.W.Frag} {a : Addr} : PySem.W.KitX K (.ref a) (.type "function") (PySem.W.KitAt a "function") :=
  PySem.W.kitx_of PySem.W.kitAt_ty (fun {_ _ _ _ _ s} p k => by obtain ⟨h, g, d, t, os⟩ := s; obtain ⟨o, h1, h2⟩ := p; exact fn_attr h1 h2 k)
/-- a value's type: as TyX, or a def of the text -/
def TyF (K : PySem.W.Frag) (H : Hp) (x : V) (t : Value) : Prop := TyX K H x t ∨ ∃ a o, x = .ref a ∧ t = .type "function" ∧ K.lookup a = some o ∧ o.cls = .type "function"
def rIsF (K : PySem.W.Frag) : List V → Hp → VK → Prop := fun xs H Q => ∃ (x c : V) (t u : Value) (b : Bool), xs = [x, c] ∧ ClsV c u ∧ TyF K H x t ∧ PySem.W.kitOne K t u = some b ∧ Q (.bl b) H
def rIsFT (K : PySem.W.Frag) : List V → Hp → VK → Prop := fun xs H Q => ∃ (x : V) (tp : Addr) (cs : List V) (t : Value) (us : List Value) (b : Bool), xs = [x, .ref tp] ∧ H tp = some (.tup cs) ∧ Paired ClsV cs us ∧ TyF K H x t ∧ PySem.W.kitAny K t us = some b ∧ Q (.bl b) H
section
variable {X : Cx}
theorem kit_ofF {pins : List (Addr × Obj)} {σ : L2.St} {H : Hp} {s : Shared} {x : V} {u t : Value} (I : Inv X pins σ H s) (rx : RelV x u) (ty : TyF X.K H x t) : ∃ P : Heap → Prop, PySem.W.KitX X.K u t P ∧ P s.heap ∧ u ≠ .builtin "__main__.__loader__#opaque" := by
  rcases ty with ty | ⟨a, o, e1, e2, e3, e4⟩
  · exact kit_of I rx ty
  · subst e1 e2
    cases (show u = Value.ref a from rx)
    exact ⟨_, kitx_fn, ⟨o, I.kIn a o e3, e4⟩, fun z => nomatch z⟩
theorem call_isF : CallR X (.builtin "isinstance") (rIsF X.K) := by
  intro pins s σ H xs us Q I r h
  obtain ⟨x, c, t, u, b, rfl, k, ty, e, q⟩ := h
  cases r with
  | cons r1 r =>
    cases r with
    | cons r2 r =>
      cases r
      have e2 := k.eq r2
      subst e2
      obtain ⟨P, Z, p, hx⟩ := kit_ofF I r1 ty
      exact PySem.W.kia_one Z I.kIn p e hx fun tk => ⟨.bl b, H, I.tok tk, rfl, q⟩
theorem call_isFT : CallR X (.builtin "isinstance") (rIsFT X.K) := by
  intro pins s σ H xs us Q I r h
  obtain ⟨x, tp, cs, t, ws, b, rfl, hT, k, ty, e, q⟩ := h
  cases r with
  | cons r1 r =>
    cases r with
    | cons r2 r =>
      cases r
      cases r2
      obtain ⟨P, Z, p, hx⟩ := kit_ofF I r1 ty
      obtain ⟨_, its, rv, o, h1, h2, n, h3⟩ := (show ObjOk X.prog X.w H s.heap tp (.tup cs) from I.hok tp _ hT)
      have e3 := ClsV.all k rv
      subst e3
      obtain ⟨oc, od, dt, sl⟩ := o
      simp only at h2 h3
      subst h2 h3
      exact PySem.W.kia_tup Z I.kIn p h1 e hx fun tk => ⟨.bl b, H, I.tok tk, rfl, q⟩
end
end Q6
end
section
set_option maxHeartbeats 4000000
/-! Built-ins and operators over data. -/
namespace Q6
open PySem PySem.Spec PyProof.Rows L2 LamX RZ
/-! ### built-ins by their names -/
theorem bb_isinstance : bootBuiltins "isinstance" = some (.builtin "isinstance") := PyProof.Rows.Boot.«isinstance»
theorem bb_len : bootBuiltins "len" = some (.builtin "len") := PyProof.Rows.Boot.«len»
theorem bb_all : bootBuiltins "all" = some (.builtin "all") := PyProof.Rows.Boot.«all»
theorem bb_sorted : bootBuiltins "sorted" = some (.builtin "sorted") := PyProof.Rows.Boot.«sorted»
theorem bb_abs : bootBuiltins "abs" = some (.builtin "abs") := PyProof.Rows.Boot.«abs»
theorem bb_max : bootBuiltins "max" = some (.builtin "max") := PyProof.Rows.Boot.«max»
theorem bb_repr : bootBuiltins "repr" = some (.builtin "repr") := PyProof.Rows.Boot.«repr»
theorem bb_list : bootBuiltins "list" = some (.type "list") := PyProof.Rows.Boot.«list»
theorem bb_tuple : bootBuiltins "tuple" = some (.type "tuple") := PyProof.Rows.Boot.«tuple»
theorem bb_int : bootBuiltins "int" = some (.type "int") := PyProof.Rows.Boot.«int»
theorem bb_bool : bootBuiltins "bool" = some (.type "bool") := PyProof.Rows.Boot.«bool»
theorem bb_dict : bootBuiltins "dict" = some (.type "dict") := PyProof.Rows.Boot.«dict»
/-- the module's names that are none of its own -/
structure Txt (mg : Str → Option Value) : Prop where
  gcd : mg "gcd" = some (.builtin "math.gcd")
  fr_isinstance : mg "isinstance" = none
  fr_list : mg "list" = none
  fr_tuple : mg "tuple" = none
  fr_int : mg "int" = none
  fr_bool : mg "bool" = none
  fr_len : mg "len" = none
  fr_all : mg "all" = none
  fr_zip : mg "zip" = none
  fr_enumerate : mg "enumerate" = none
  fr_sorted : mg "sorted" = none
  fr_abs : mg "abs" = none
  fr_dict : mg "dict" = none
  fr_max : mg "max" = none
  fr_repr : mg "repr" = none
  fr_range : mg "range" = none
/-- the def _law_odd stands -/
def OddOk (K : PySem.W.Frag) : Prop := ∃ o, K.lookup (He.ga K "_law_odd") = some o ∧ o.cls = .type "function"
/-! ### from a promise to a body -/
def cxt (C : Cf) (ds : List PyData) (n : Nat) : Cxt := ds.map (fun d => some (tyD C d)) ++ List.replicate (n - ds.length) none
theorem sat_start {C : Cf} {N : List Str} {vs : List V} {ds : List PyData} {H : Hp} (h : DqAll C H vs ds) : Sat (cxt C ds N.length) (L2.start N vs) H := by
  have hl := dA_len h
  refine ⟨by simp [cxt, L2.start, hl], fun i τ e => ?_⟩
  unfold cxt at e
  rcases Nat.lt_or_ge i ds.length with c | c
  · rw [List.getElem?_append_left (by simpa using c), List.getElem?_map] at e
    cases q : ds[i]? with
    | none => rw [q] at e; cases e
    | some d =>
      rw [q] at e
      have e2 : tyD C d = τ := Option.some.inj (Option.some.inj e)
      subst e2
      obtain ⟨v, hv, r⟩ := dA_got h q
      refine ⟨v, ?_, r⟩
      unfold L2.start
      rw [List.getElem?_append_left (by simpa [hl] using c), List.getElem?_map, hv]; rfl
  · rw [List.getElem?_append_right (by simpa using c)] at e
    have := List.mem_of_getElem? e
    have := List.eq_of_mem_replicate this
    cases this
theorem read_R {T : List (Addr × Str)} {K : PySem.W.Frag} {N : List Str} {c : Nat} {F : List PyData → Res → Prop} {n : Nat} {t : TS} (h : ∀ S ds R, F ds R → ds.length = n → HasS ⟨K, T, S⟩ c t (cxt ⟨K, T, S⟩ ds N.length) [] nvr R) {vs : List V} {H : Hp} {Q : VK} {E : XK} (s : spR T K c F n vs H Q E) :
    t { nx := fun _ H' => Q .non H', rt := Q } (L2.start N vs) H := by
  obtain ⟨S, M, k, ds, R, hl, ok, hd, hF, q⟩ := s
  exact h S ds R hF (by rw [← dA_len hd]; exact hl) M H (hide M H) k _ H _ ⟨ok, ok, go.refl H, ExtN.refl _, fun p hp => (nomatch hp), List.nodup_nil, sat_start hd⟩ (fun _ _ _ _ z => z.elim) q
theorem read_D {T : List (Addr × Str)} {K : PySem.W.Frag} {N : List Str} {F : List PyData → PyData → Prop} {n : Nat} {t : TS} (h : ∀ S ds d, F ds d → ds.length = n → HasS ⟨K, T, S⟩ 0 t (cxt ⟨K, T, S⟩ ds N.length) [] nvr (rD d)) {vs : List V} {H : Hp} {Q : VK} {E : XK} (s : spD T K F n vs H Q E) :
    t { nx := fun _ H' => Q .non H', rt := Q } (L2.start N vs) H := read_R (fun S ds R ⟨d, e, hF⟩ hl => by rw [e]; exact h S ds d hF hl) s
theorem len_R {T : List (Addr × Str)} {K : PySem.W.Frag} {c : Nat} {F : List PyData → Res → Prop} {n : Nat} {vs : List V} {H : Hp} {Q : VK} {E : XK} (s : spR T K c F n vs H Q E) : vs.length = n := by
  obtain ⟨S, M, k, ds, R, hl, _⟩ := s
  exact hl
/-- no draws -/
theorem hasS_0 {C : Cf} {c : Nat} {ts : TS} {Γ : Cxt} {A : Own} {B : Post} {R : Res} (h : HasS C c ts Γ A B R) (e : c = 0) : HasS C 0 ts Γ A B R := by rw [← e]; exact h
/-! ### kinds -/
def kd : PyData → String
  | .none => "NoneType"
  | .bool _ => "bool"
  | .int _ => "int"
  | .str _ => "str"
  | .list _ => "list"
  | .tuple _ => "tuple"
  | .dict [] => "dict"
  | .dict (_ :: _) => "function"
def instB (k T : String) : Bool := k == T || (k == "bool" && T == "int")
def isStrm : PyData → Bool
  | .dict [(.bool true, .none)] => true
  | .dict [(.str _, .none)] => true
  | _ => false
section
variable {C : Cf} {Γ Δ Γ1 : Cxt} {ta tb te : TE} {τ τ' τ2 : Ty} {d e : PyData} {ds es : List PyData} {i j : Int} {t u tt : TT} {b b' : Bool} {c c1 c2 c3 k : Nat} {A A1 : Own} {B B' : Post} {R : Res} {H : Hp} {P Q : PyData → Prop}
theorem d_tyF {v : V} (o : OddOk C.K) (h : Dq C H v d) (n : isStrm d = false) : TyF C.K H v (.type (kd d)) := by
  cases h with
  | non => exact .inl (.base .non)
  | bl b => exact .inl (.base (.bl b))
  | int i => exact .inl (.base (.int i))
  | str x => exact .inl (.base (.str x))
  | lst h r => exact .inl (.base (.lst h))
  | tup h r => exact .inl (.base (.tup h))
  | emp h => exact .inl (.base (.dK h))
  | fn =>
    obtain ⟨ob, h1, h2⟩ := o
    exact .inr ⟨_, ob, rfl, rfl, h1, h2⟩
  | strm h => cases n
  | glo x => cases n
theorem kit_inst {K : PySem.W.Frag} (d : PyData) {T : String} (hT : T ∈ ["list", "tuple", "dict", "int", "bool"]) : PySem.W.kitOne K (.type (kd d)) (.type T) = some (instB (kd d) T) := by
  have hk : kd d ∈ ["NoneType", "bool", "int", "str", "list", "tuple", "dict", "function"] := by
    match d with
    | .none => simp [kd]
    | .bool _ => simp [kd]
    | .int _ => simp [kd]
    | .str _ => simp [kd]
    | .list _ => simp [kd]
    | .tuple _ => simp [kd]
    | .dict [] => simp [kd]
    | .dict (_ :: _) => simp [kd]
  apply kit_ty
  generalize kd d = k at hk
  have all : ∀ k ∈ ["NoneType", "bool", "int", "str", "list", "tuple", "dict", "function"], ∀ T ∈ ["list", "tuple", "dict", "int", "bool"], kitB k T = some (instB k T) := by decide +kernel
  exact all k hk T hT
theorem kit_any {K : PySem.W.Frag} (d : PyData) : ∀ {Ts : List String}, (∀ T ∈ Ts, T ∈ ["list", "tuple", "dict", "int", "bool"]) → PySem.W.kitAny K (.type (kd d)) (Ts.map Value.type) = some (Ts.any (instB (kd d)))
  | [], _ => kitAny_nil
  | T :: Ts, h => by
    have h1 := kit_inst (K := K) d (h T (List.mem_cons_self ..))
    have h2 := kit_any (K := K) d (Ts := Ts) fun T' hT => h T' (List.mem_cons_of_mem _ hT)
    refine kitAny_cons h1 (fun e => ?_) (fun e => ?_)
    · rw [h2, List.any_cons, e, Bool.false_or]
    · rw [List.any_cons, e, Bool.true_or]
theorem has_isi {T : String} (o : OddOk C.K) (h : HasE C c te Γ (tyD C d)) (n : isStrm d = false) (hT : T ∈ ["list", "tuple", "dict", "int", "bool"] := by decide) : HasE C c (tCB (rIsF C.K) (tCons te (tCons (tC (.ty T)) tNil))) Γ (tyD C (.bool (instB (kd d) T))) := fun M k σ H Q ok st q =>
  h M k σ H _ ok st fun v H1 g1 o1 p => ⟨v, .ty T, _, _, _, rfl, .ty T, d_tyF o (p.ext ext_sub) n, kit_inst d hT, q _ H1 g1 o1 (.bl _)⟩
theorem paired_ty : ∀ Ts : List String, Paired ClsV (Ts.map V.ty) (Ts.map Value.type)
  | [] => .nil
  | T :: Ts => .cons (.ty T) (paired_ty Ts)
theorem has_isiT2 {T1 T2 : String} (o : OddOk C.K) (h : HasE C c te Γ (tyD C d)) (n : isStrm d = false) (hT : ∀ T ∈ [T1, T2], T ∈ ["list", "tuple", "dict", "int", "bool"] := by decide) :
    HasE C c (tCB (rIsFT C.K) (tCons te (tCons (tTup (tCons (tC (.ty T1)) (tCons (tC (.ty T2)) tNil))) tNil))) Γ (tyD C (.bool (instB (kd d) T1 || instB (kd d) T2))) := fun M k σ H Q ok st q =>
  h M k σ H _ ok st fun v H1 g1 o1 p => ⟨small_line (by simp), fun a ha => ⟨v, a, _, _, _, _, rfl, upd_same, paired_ty [T1, T2], d_tyF o ((p.ext ((go.new (C := C) (o := .tup [.ty T1, .ty T2]) ha).k o1)).ext ext_sub) n, kit_any d hT, q _ _ (g1.trans (go.new ha)) (o1.new ha) (by
    have : [T1, T2].any (instB (kd d)) = (instB (kd d) T1 || instB (kd d) T2) := by simp
    rw [this]; exact .bl _)⟩⟩
theorem has_isiT3 {T1 T2 T3 : String} (o : OddOk C.K) (h : HasE C c te Γ (tyD C d)) (n : isStrm d = false) (hT : ∀ T ∈ [T1, T2, T3], T ∈ ["list", "tuple", "dict", "int", "bool"] := by decide) :
    HasE C c (tCB (rIsFT C.K) (tCons te (tCons (tTup (tCons (tC (.ty T1)) (tCons (tC (.ty T2)) (tCons (tC (.ty T3)) tNil)))) tNil))) Γ (tyD C (.bool (instB (kd d) T1 || (instB (kd d) T2 || instB (kd d) T3)))) := fun M k σ H Q ok st q =>
  h M k σ H _ ok st fun v H1 g1 o1 p => ⟨small_line (by simp), fun a ha => ⟨v, a, _, _, _, _, rfl, upd_same, paired_ty [T1, T2, T3], d_tyF o ((p.ext ((go.new (C := C) (o := .tup [.ty T1, .ty T2, .ty T3]) ha).k o1)).ext ext_sub) n, kit_any d hT, q _ _ (g1.trans (go.new ha)) (o1.new ha) (by
    have : [T1, T2, T3].any (instB (kd d)) = (instB (kd d) T1 || (instB (kd d) T2 || instB (kd d) T3)) := by simp
    rw [this]; exact .bl _)⟩⟩
/-! ### ==, in -/
def eqOk (d : PyData) : Bool := noDict d && SeqAt.shaped d
theorem eqOk_1 (h : eqOk d = true) : noDict d = true := (Bool.and_eq_true_iff.mp h).1
theorem eqOk_2 (h : eqOk d = true) : SeqAt.shaped d = true := (Bool.and_eq_true_iff.mp h).2
theorem op_eqQ (h1 : eqOk d = true) (h2 : eqOk e = true) : Op2 C (rEqD C.K) d e (tyD C (.bool (PyData.eqv d e))) := fun M k x y H Q ok p1 p2 q => ⟨d, e, (p1.ext ext_sub).dp (eqOk_1 h1), (p2.ext ext_sub).dp (eqOk_1 h2), eqOk_2 h1, eqOk_2 h2, q _ _ (go.refl H) ok (.bl _)⟩
theorem op_neQ (h1 : eqOk d = true) (h2 : eqOk e = true) : Op2 C (rNeD C.K) d e (tyD C (.bool (!PyData.eqv d e))) := fun M k x y H Q ok p1 p2 q => ⟨d, e, (p1.ext ext_sub).dp (eqOk_1 h1), (p2.ext ext_sub).dp (eqOk_1 h2), eqOk_2 h1, eqOk_2 h2, q _ _ (go.refl H) ok (.bl _)⟩
theorem has_eq (ha : HasE C c1 ta Γ (tyD C d)) (hb : HasE C c2 tb Γ (tyD C e)) (h1 : eqOk d = true) (h2 : eqOk e = true) : HasE C (c1 + c2) (tOp (rEqD C.K) ta tb) Γ (tyD C (.bool (PyData.eqv d e))) := has_op ha hb (op_eqQ h1 h2)
theorem has_ne (ha : HasE C c1 ta Γ (tyD C d)) (hb : HasE C c2 tb Γ (tyD C e)) (h1 : eqOk d = true) (h2 : eqOk e = true) : HasE C (c1 + c2) (tOp (rNeD C.K) ta tb) Γ (tyD C (.bool (!PyData.eqv d e))) := has_op ha hb (op_neQ h1 h2)
theorem eqOk_int {n : Int} : eqOk (.int n) = true := by simp [eqOk, noDict, SeqAt.shaped, PyData.canLay0, PyData.depth]
theorem has_eqI (ha : HasE C c1 ta Γ (tyD C (.int i))) (hb : HasE C c2 tb Γ (tyD C (.int j))) : HasE C (c1 + c2) (tOp (rEqD C.K) ta tb) Γ (tyD C (.bool (i == j))) := has_eq ha hb eqOk_int eqOk_int
theorem has_neI (ha : HasE C c1 ta Γ (tyD C (.int i))) (hb : HasE C c2 tb Γ (tyD C (.int j))) : HasE C (c1 + c2) (tOp (rNeD C.K) ta tb) Γ (tyD C (.bool (!(i == j)))) := has_ne ha hb eqOk_int eqOk_int
theorem op_ninQ (h1 : eqOk d = true) (h2 : eqOk (.list ds) = true) : Op2 C (rNotInD C.K) d (.list ds) (tyD C (.bool (!ds.any fun z => PyData.eqv z d))) := fun M k x y H Q ok p1 p2 q => ⟨d, ds, (p1.ext ext_sub).dp (eqOk_1 h1), (p2.ext ext_sub).dp (eqOk_1 h2), eqOk_2 h1, eqOk_2 h2, q _ _ (go.refl H) ok (.bl _)⟩
/-! ### None -/
def isNone : PyData → Bool
  | .none => true
  | _ => false
theorem d_isN {v : V} (h : Dq C H v d) : decide (v = .non) = isNone d := by
  cases h <;> first | rfl | simp [isNone]
theorem has_isN (h : HasE C c te Γ (tyD C d)) : HasE C c (tIsN te) Γ (tyD C (.bool (isNone d))) := fun M k σ H Q ok st q => h M k σ H _ ok st fun v H1 g1 o1 p => q _ H1 g1 o1 (by rw [d_isN p]; exact .bl _)
theorem has_notN (h : HasE C c te Γ (tyD C d)) : HasE C c (tNotN te) Γ (tyD C (.bool (!isNone d))) := fun M k σ H Q ok st q => h M k σ H _ ok st fun v H1 g1 o1 p => q _ H1 g1 o1 (by rw [d_isN p]; exact .bl _)
/-! ### all, max, abs, int, list, tuple -/
theorem bools_of {vs : List V} : ∀ {bs : List Bool}, DqAll C H vs (bs.map PyData.bool) → vs = bs.map V.bl := by
  intro bs
  induction bs generalizing vs with
  | nil => intro h; cases h; rfl
  | cons b bs ih => intro h; cases h with | cons h r => rw [d_bl h, ih r]; rfl
theorem ints_of {vs : List V} : ∀ {ns : List Int}, DqAll C H vs (ns.map PyData.int) → vs = ns.map V.int := by
  intro bs
  induction bs generalizing vs with
  | nil => intro h; cases h; rfl
  | cons b bs ih => intro h; cases h with | cons h r => rw [d_int h, ih r]; rfl
theorem has_all {bs : List Bool} (h : HasE C c te Γ (tyD C (.list (bs.map .bool)))) : HasE C c (tCB (rAll C.K) (tCons te tNil)) Γ (tyD C (.bool (bs.all id))) := fun M k σ H Q ok st q =>
  h M k σ H _ ok st fun v H1 g1 o1 p => by
    obtain ⟨a, xs, e, hx, r⟩ := d_lst p
    have := bools_of r
    subst this
    exact ⟨a, bs, by rw [e], sqL_of (hide_some hx).2, q _ H1 g1 o1 (.bl _)⟩
theorem has_maxL {ns : List Int} {m : Int} (h : HasE C c te Γ (tyD C (.list (ns.map .int)))) (hm : ∀ y ∈ ns, y ≤ m) (hi : m ∈ ns) : HasE C c (tCB (rMax C.K) (tCons te tNil)) Γ (tyD C (.int m)) := fun M k σ H Q ok st q =>
  h M k σ H _ ok st fun v H1 g1 o1 p => by
    obtain ⟨a, xs, e, hx, r⟩ := d_lst p
    have := ints_of r
    subst this
    exact ⟨a, ns, by rw [e], sqL_of (hide_some hx).2, List.length_pos_of_mem hi, fun y hy hh => by
      have e1 := hh m hi
      have e2 := hm y hy
      have : y = m := by omega
      subst this
      exact q _ H1 g1 o1 (.int _)⟩
theorem has_abs (h : HasE C c te Γ (tyD C (.int i))) : HasE C c (tCB (fun xs H Q => ∃ i, xs = [.int i] ∧ Q (.int (if i < 0 then -i else i)) H) (tCons te tNil)) Γ (tyD C (.int (i.natAbs : Nat))) := fun M k σ H Q ok st q =>
  h M k σ H _ ok st fun v H1 g1 o1 p => ⟨i, by rw [d_int p], by
    have : (if i < 0 then -i else i) = (i.natAbs : Int) := by split <;> omega
    rw [this]; exact q _ H1 g1 o1 (.int _)⟩
theorem has_int1 (h : HasE C c te Γ (tyD C (.int i))) : HasE C c (tCB (fun xs H Q => (∃ i, xs = [.int i] ∧ Q (.int i) H) ∨ ∃ k, xs = [.bl k] ∧ Q (.int (if k then 1 else 0)) H) (tCons te tNil)) Γ (tyD C (.int i)) := fun M k σ H Q ok st q =>
  h M k σ H _ ok st fun v H1 g1 o1 p => .inl ⟨i, by rw [d_int p], q _ H1 g1 o1 (.int _)⟩
theorem has_list (h : HasE C c te Γ (tyD C d)) (e1 : seqD d = some ds) : HasE C c (tCB (fun xs H Q => ∃ p ys, xs = [.ref p] ∧ (SqL C.K H p ys ∨ SqT C.K H p ys) ∧ ∀ l, H l = none → Q (.ref l) (upd H l (.lst ys))) (tCons te tNil)) Γ (tyD C (.list ds)) := fun M k σ H Q ok st q =>
  h M k σ H _ ok st fun v H1 g1 o1 p => by
    obtain ⟨a, xs, ex, hs, r⟩ := d_seq p e1
    subst ex
    exact ⟨a, xs, rfl, sq_or hs, fun l hl => q _ _ (g1.trans (go.new hl)) (o1.new hl) (.lst (dom_new o1 hl) (r.ext ((go.new (C := C) hl).k o1)))⟩
theorem has_tupleP {P : PyData → Prop} {L : List PyData → Prop} (h : HasE C c te Γ (tyP C P)) (e1 : ∀ d, P d → ∃ ds, d = .list ds ∧ L ds) : HasE C c (tCB (fun xs H Q => ∃ p ys, xs = [.ref p] ∧ ((SqL C.K H p ys ∧ ∀ l, H l = none → Q (.ref l) (upd H l (.tup ys))) ∨ (SqT C.K H p ys ∧ Q (.ref p) H))) (tCons te tNil)) Γ (tyP C fun d => ∃ ds, d = .tuple ds ∧ L ds) := fun M k σ H Q ok st q =>
  h M k σ H _ ok st fun v H1 g1 o1 ⟨d, hd, p⟩ => by
    obtain ⟨ds, e, hl⟩ := e1 d hd
    subst e
    obtain ⟨a, xs, ex, hs, r⟩ := d_lst p
    subst ex
    exact ⟨a, xs, rfl, .inl ⟨sqL_of (hide_some hs).2, fun l hl' => q _ _ (g1.trans (go.new hl')) (o1.new hl') ⟨_, ⟨ds, rfl, hl⟩, .tup (dom_new o1 hl') (r.ext ((go.new (C := C) hl').k o1))⟩⟩⟩
/-! ### slices, +, * -/
/-- the items of ds[lo:hi] -/
def cutD (ds : List PyData) (lo hi : Option Int) : List PyData := (ds.drop (HT.sIx ds.length 0 lo)).take (HT.sIx ds.length ds.length hi - HT.sIx ds.length 0 lo)
def HasO (C : Cf) (c : Nat) (tO : TO) (Γ : Cxt) (o : Option Int) : Prop := ∀ (M : List Addr) (k : Nat) (σ : L2.St) (H : Hp) (Q : Option Int → Hp → Prop), Ok C (k + c) M H → Sat Γ σ (hide M H) → (∀ H', go C H H' → Ok C k M H' → Q o H') → tO σ H Q
theorem ho_none : HasO C 0 tNoPart Γ none := fun M k σ H Q ok st q => q H (go.refl H) ok
theorem ho_some (h : HasE C c te Γ (tyD C (.int i))) : HasO C c (tPart te) Γ (some i) := fun M k σ H Q ok st q => h M k σ H _ ok st fun v H1 g1 o1 p => ⟨i, d_int p, q H1 g1 o1⟩
abbrev rSl (K : PySem.W.Frag) : V → Option Int → Option Int → Hp → VK → Prop := fun x lo hi H Q => rSlL K x lo hi H Q ∨ rSlT K x lo hi H Q
theorem dA_cut {vs : List V} (r : DqAll C H vs ds) (lo hi : Option Int) : DqAll C H (cutV vs lo hi) (cutD ds lo hi) := by
  unfold cutV cutD
  rw [dA_len r]
  exact dA_take _ (dA_drop _ r)
theorem has_sl {tl th : TO} {lo hi : Option Int} (h : HasE C c1 te Γ (tyD C (.list ds))) (hl : HasO C c2 tl Γ lo) (hh : HasO C c3 th Γ hi) : HasE C (c1 + (c2 + c3)) (tSl (rSl C.K) te tl th) Γ (tyD C (.list (cutD ds lo hi))) := fun M k σ H Q ok st q =>
  h M (k + (c2 + c3)) σ H _ (ok.le (by omega)) st fun v H1 g1 o1 p1 => hl M (k + c3) σ H1 _ (o1.le (by omega)) (st.ext (g1.k ok)) fun H2 g2 o2 => hh M k σ H2 _ o2 ((st.ext (g1.k ok)).ext (g2.k o1)) fun H3 g3 o3 => by
    obtain ⟨a, xs, ex, hs, r⟩ := d_lst ((p1.ext (g2.k o1)).ext (g3.k o2))
    subst ex
    exact .inl ⟨a, xs, rfl, sqL_of (hide_some hs).2, fun l hn => q _ _ (((g1.trans g2).trans g3).trans (go.new hn)) (o3.new hn) (.lst (dom_new o3 hn) ((dA_cut r lo hi).ext ((go.new (C := C) hn).k o3)))⟩
theorem has_slT {tl th : TO} {lo hi : Option Int} (h : HasE C c1 te Γ (tyD C (.tuple ds))) (hl : HasO C c2 tl Γ lo) (hh : HasO C c3 th Γ hi) (hw : ¬ (HT.sIx ds.length 0 lo = 0 ∧ HT.sIx ds.length ds.length hi = ds.length)) : HasE C (c1 + (c2 + c3)) (tSl (rSl C.K) te tl th) Γ (tyD C (.tuple (cutD ds lo hi))) := fun M k σ H Q ok st q =>
  h M (k + (c2 + c3)) σ H _ (ok.le (by omega)) st fun v H1 g1 o1 p1 => hl M (k + c3) σ H1 _ (o1.le (by omega)) (st.ext (g1.k ok)) fun H2 g2 o2 => hh M k σ H2 _ o2 ((st.ext (g1.k ok)).ext (g2.k o1)) fun H3 g3 o3 => by
    obtain ⟨a, xs, ex, hs, r⟩ := d_tup ((p1.ext (g2.k o1)).ext (g3.k o2))
    subst ex
    exact .inr ⟨a, xs, rfl, sqT_of (hide_some hs).2, by rw [dA_len r]; exact hw, fun l hn => q _ _ (((g1.trans g2).trans g3).trans (go.new hn)) (o3.new hn) (.tup (dom_new o3 hn) ((dA_cut r lo hi).ext ((go.new (C := C) hn).k o3)))⟩
theorem op_catQ (hz : ds.length + es.length ≤ 100000) : Op2 C rCat (.list ds) (.list es) (tyD C (.list (ds ++ es))) := fun M k x y H Q ok p1 p2 q => by
  obtain ⟨a, xs, e1, h1, r1⟩ := d_lst p1
  obtain ⟨b, ys, e2, h2, r2⟩ := d_lst p2
  exact ⟨a, b, xs, ys, e1, e2, (hide_some h1).2, (hide_some h2).2, by rw [dA_len r1, dA_len r2]; exact small_line hz, fun l hn => q _ _ (go.new hn) (ok.new hn) (.lst (dom_new ok hn) ((dA_app r1 r2).ext ((go.new (C := C) hn).k ok)))⟩
theorem has_cat (ha : HasE C c1 ta Γ (tyD C (.list ds))) (hb : HasE C c2 tb Γ (tyD C (.list es))) (hz : ds.length + es.length ≤ 100000) : HasE C (c1 + c2) (tOp rCat ta tb) Γ (tyD C (.list (ds ++ es))) := has_op ha hb (op_catQ hz)
end
end Q6
end
section
set_option maxHeartbeats 4000000
/-! New lists that stay one's own; new curves. -/
namespace Q6
open PySem PySem.Spec PyProof.Rows L2 LamX RZ
/-- an expression that makes a new list -/
def HasF (C : Cf) (c : Nat) (te : TE) (Γ : Cxt) (P : List PyData → Prop) : Prop := ∀ (M : List Addr) (k : Nat) (σ : L2.St) (H : Hp) (Q : VK), Ok C (k + c) M H → Sat Γ σ (hide M H) →
  (∀ l xs ds H', NewAt H l → l ∉ M → go C H H' → Ok C k M H' → H' l = some (.lst xs) → P ds → DqAll C (hide (l :: M) H') xs ds → Q (.ref l) H') → te σ H Q
section
variable {C : Cf} {Γ Δ Γ1 : Cxt} {ta tb te : TE} {τ τ' τ2 : Ty} {d e : PyData} {ds es : List PyData} {i j n : Nat} {t u tt : TT} {b b' : Bool} {c c1 c2 c3 k k' : Nat} {A A1 : Own} {B B' : Post} {R : Res} {H H' H0 N : Hp} {P : List PyData → Prop} {M0 M : List Addr} {σ : L2.St} {rest : TS} {l : Addr}
theorem newAt_back (g : go C H0 H) (n : l ∉ C.S) (h : NewAt H l) : NewAt H0 l := fun o e => by
  by_cases z : ∀ ps, o ≠ .tbl ps
  · obtain ⟨ps, q⟩ := h o (g.at n e z)
    exact ⟨ps, q⟩
  · cases o with
    | tbl ps => exact ⟨ps, rfl⟩
    | _ => exact absurd (fun ps w => by cases w) z
theorem ext_new (g : go C H H') (o : Ok C k M H) (n : NewAt H l) : ExtN (hide M H) (hide (l :: M) H') := hide_ext fun b ob nb eb t => by
  have hb : b ≠ l := fun z => by
    rw [z] at eb
    obtain ⟨ps, q⟩ := n ob eb
    exact t ps q
  exact ⟨fun z => by
    rcases List.mem_cons.mp z with z | z
    · exact hb z
    · exact nb z, g.at (fun z => nb (o.sub _ z)) eb t⟩
theorem own_fresh {xs : List V} (a : At0 C k M0 H0 N A Γ σ H) (g : go C H H') (o : Ok C k' (A.map (·.1) ++ M0) H') (n : NewAt H l) (nm : l ∉ A.map (·.1) ++ M0) (hx : H' l = some (.lst xs)) (r : DqAll C (hide (l :: (A.map (·.1) ++ M0)) H') xs ds) : At0 C k' M0 H0 N ((l, ds) :: A) Γ σ H' := by
  have k1 := ext_new g a.ok n
  have hs : l ∉ C.S := fun z => nm (a.ok.sub _ z)
  have n0 := newAt_back a.gone hs n
  refine ⟨o.cons hx, ⟨fun x hx => o.dom x (List.mem_append_right _ hx), o.tabs, a.ok0.sub, o.str⟩, a.gone.trans g, a.kept.trans k1, fun p hp => ?_, ?_, a.sat.ext k1⟩
  · rcases List.mem_cons.mp hp with e | e
    · subst e
      exact ⟨n0, fun z => nm (List.mem_append_right _ z), xs, hx, r⟩
    · obtain ⟨h1, h2, ys, h3, h4⟩ := a.own p e
      exact ⟨h1, h2, ys, g.at (fun z => h2 (a.ok0.sub _ z)) h3 (fun ps z => by cases z), h4.ext k1⟩
  · exact List.nodup_cons.mpr ⟨fun z => nm (List.mem_append_left _ z), a.nd⟩
theorem f_of_new {xs : List V} (g : go C H H') (o : Ok C k M H') (hl : H' l = none) (hn : l ∉ C.S) : NewAt H l := newAt_back g hn (.of hl)
theorem f_lst {tr : TA} (ha : HasA C c tr Γ (fun l => l = ds)) (hz : ds.length ≤ 100000) : HasF C c (tLst tr) Γ (fun l => l = ds) := fun M k σ H Q ok st q =>
  ha M k σ H _ ok st fun xs H1 es g1 o1 e p => ⟨by rw [dA_len p, e]; exact small_line hz, fun l hl => by
    have hm := o1.out hl
    exact q l xs es _ (newAt_back g1 (fun z => hm (o1.sub _ z)) (.of hl)) hm (g1.trans (go.new hl)) (o1.new hl) upd_same e (p.ext (ext_new (go.new hl) o1 (.of hl)))⟩
theorem f_list (h : HasE C c te Γ (tyD C d)) (e1 : seqD d = some ds) : HasF C c (tCB (fun xs H Q => ∃ p ys, xs = [.ref p] ∧ (SqL C.K H p ys ∨ SqT C.K H p ys) ∧ ∀ l, H l = none → Q (.ref l) (upd H l (.lst ys))) (tCons te tNil)) Γ (fun l => l = ds) := fun M k σ H Q ok st q =>
  h M k σ H _ ok st fun v H1 g1 o1 p => by
    obtain ⟨a, xs, ex, hs, r⟩ := d_seq p e1
    subst ex
    refine ⟨a, xs, rfl, sq_or hs, fun l hl => ?_⟩
    have hm := o1.out hl
    exact q l xs ds _ (newAt_back g1 (fun z => hm (o1.sub _ z)) (.of hl)) hm (g1.trans (go.new hl)) (o1.new hl) upd_same rfl (r.ext (ext_new (go.new hl) o1 (.of hl)))
theorem f_sl {tl th : TO} {lo hi : Option Int} (h : HasE C c1 te Γ (tyD C (.list ds))) (hl : HasO C c2 tl Γ lo) (hh : HasO C c3 th Γ hi) : HasF C (c1 + (c2 + c3)) (tSl (rSl C.K) te tl th) Γ (fun l => l = cutD ds lo hi) := fun M k σ H Q ok st q =>
  h M (k + (c2 + c3)) σ H _ (ok.le (by omega)) st fun v H1 g1 o1 p1 => hl M (k + c3) σ H1 _ (o1.le (by omega)) (st.ext (g1.k ok)) fun H2 g2 o2 => hh M k σ H2 _ o2 ((st.ext (g1.k ok)).ext (g2.k o1)) fun H3 g3 o3 => by
    obtain ⟨a, xs, ex, hs, r⟩ := d_lst ((p1.ext (g2.k o1)).ext (g3.k o2))
    subst ex
    refine .inl ⟨a, xs, rfl, sqL_of (hide_some hs).2, fun l hn => ?_⟩
    have hm := o3.out hn
    exact q l _ _ _ (newAt_back ((g1.trans g2).trans g3) (fun z => hm (o3.sub _ z)) (.of hn)) hm (((g1.trans g2).trans g3).trans (go.new hn)) (o3.new hn) upd_same rfl ((dA_cut r lo hi).ext (ext_new (go.new hn) o3 (.of hn)))
/-- x = a new list -/
theorem hasS_seq_own (h : HasF C c1 te Γ P) (hr : ∀ l ds, P ds → HasS C c2 rest (Γ.set n (some (tyV (.ref l)))) ((l, ds) :: A) B R) : HasS C (c1 + c2) (tSeq (tAsg te (gName n)) rest) Γ A B R := fun M0 H0 N k σ H D a q r =>
  h _ (k + c2) σ H _ (a.le (by omega) : At0 C _ M0 H0 N A Γ σ H).ok a.sat fun l xs ds H1 n1 nm g1 o1 hx hp p => by
    have a1 := own_fresh a g1 o1 n1 nm hx p
    exact hr l ds hp M0 H0 N k _ _ D (a1.step (go.refl _) a1.ok (a1.sat.set rfl)) q r
/-- x, y = new list, e -/
theorem hasS_seq_par1 (h : HasF C c1 ta Γ P) (h2 : HasE C c2 tb Γ (tyD C d)) (hr : ∀ l ds, P ds → HasS C c3 rest ((Γ.set i (some (tyV (.ref l)))).set j (some (tyD C d))) ((l, ds) :: A) B R) : HasS C (c1 + (c2 + c3)) (tSeq (tPar i j (tCons ta (tCons tb tNil))) rest) Γ A B R := fun M0 H0 N k σ H D a q r =>
  h _ (k + (c2 + c3)) σ H _ (a.le (by omega) : At0 C _ M0 H0 N A Γ σ H).ok a.sat fun l xs ds H1 n1 nm g1 o1 hx hp p => by
    have a1 := own_fresh a g1 o1 n1 nm hx p
    refine h2 _ (k + c3) σ H1 _ (a1.le (by omega) : At0 C _ M0 H0 N _ Γ σ H1).ok a1.sat fun v H2 g2 o2 p2 => ?_
    have a2 := a1.gos g2 o2
    exact ⟨_, _, rfl, hr l ds hp M0 H0 N k _ _ D (a2.step (go.refl _) a2.ok ((a2.sat.set rfl).set p2)) q r⟩
/-- x, y = e, new list -/
theorem hasS_seq_par2 (h2 : HasE C c1 ta Γ (tyD C d)) (h : HasF C c2 tb Γ P) (hr : ∀ l ds, P ds → HasS C c3 rest ((Γ.set i (some (tyD C d))).set j (some (tyV (.ref l)))) ((l, ds) :: A) B R) : HasS C (c1 + (c2 + c3)) (tSeq (tPar i j (tCons ta (tCons tb tNil))) rest) Γ A B R := fun M0 H0 N k σ H D a q r =>
  h2 _ (k + (c2 + c3)) σ H _ (a.le (by omega) : At0 C _ M0 H0 N A Γ σ H).ok a.sat fun v H1 g1 o1 p1 => by
    have a1 := a.gos g1 o1
    refine h _ (k + c3) σ H1 _ (a1.le (by omega) : At0 C _ M0 H0 N _ Γ σ H1).ok a1.sat fun l xs ds H2 n2 nm g2 o2 hx hp p => ?_
    have a2 := own_fresh a1 g2 o2 n2 nm hx p
    exact ⟨_, _, rfl, hr l ds hp M0 H0 N k _ _ D (a2.step (go.refl _) a2.ok ((a2.sat.set (p1.ext (ext_new g2 a1.ok n2))).set rfl)) q r⟩
/-- x, y, z = e, new list, f -/
theorem hasS_seq_par3b {m : Nat} {tc : TE} {c4 : Nat} (h1 : HasE C c1 ta Γ (tyD C d)) (h : HasF C c2 tb Γ P) (h3 : HasE C c3 tc Γ (tyD C e)) (hr : ∀ l ds, P ds → HasS C c4 rest (((Γ.set i (some (tyD C d))).set j (some (tyV (.ref l)))).set m (some (tyD C e))) ((l, ds) :: A) B R) :
    HasS C (c1 + (c2 + (c3 + c4))) (tSeq (tPar3 i j m (tCons ta (tCons tb (tCons tc tNil)))) rest) Γ A B R := fun M0 H0 N k σ H D a q r =>
  h1 _ (k + (c2 + (c3 + c4))) σ H _ (a.le (by omega) : At0 C _ M0 H0 N A Γ σ H).ok a.sat fun v H1 g1 o1 p1 => by
    have a1 := a.gos g1 o1
    refine h _ (k + (c3 + c4)) σ H1 _ (a1.le (by omega) : At0 C _ M0 H0 N _ Γ σ H1).ok a1.sat fun l xs ds H2 n2 nm g2 o2 hx hp p => ?_
    have a2 := own_fresh a1 g2 o2 n2 nm hx p
    refine h3 _ (k + c4) σ H2 _ (a2.le (by omega) : At0 C _ M0 H0 N _ Γ σ H2).ok a2.sat fun v3 H3 g3 o3 p3 => ?_
    have a3 := a2.gos g3 o3
    exact ⟨_, _, _, rfl, hr l ds hp M0 H0 N k _ _ D (a3.step (go.refl _) a3.ok (((a3.sat.set ((p1.ext (ext_new g2 a1.ok n2)).ext (g3.k a2.ok))).set rfl).set p3)) q r⟩
/-- x, y, z = new list, e, f -/
theorem hasS_seq_par3a {m : Nat} {tc : TE} {c4 : Nat} (h : HasF C c1 ta Γ P) (h2 : HasE C c2 tb Γ (tyD C d)) (h3 : HasE C c3 tc Γ (tyD C e)) (hr : ∀ l ds, P ds → HasS C c4 rest (((Γ.set i (some (tyV (.ref l)))).set j (some (tyD C d))).set m (some (tyD C e))) ((l, ds) :: A) B R) :
    HasS C (c1 + (c2 + (c3 + c4))) (tSeq (tPar3 i j m (tCons ta (tCons tb (tCons tc tNil)))) rest) Γ A B R := fun M0 H0 N k σ H D a q r =>
  h _ (k + (c2 + (c3 + c4))) σ H _ (a.le (by omega) : At0 C _ M0 H0 N A Γ σ H).ok a.sat fun l xs ds H1 n1 nm g1 o1 hx hp p => by
    have a1 := own_fresh a g1 o1 n1 nm hx p
    refine h2 _ (k + (c3 + c4)) σ H1 _ (a1.le (by omega) : At0 C _ M0 H0 N _ Γ σ H1).ok a1.sat fun v2 H2 g2 o2 p2 => ?_
    have a2 := a1.gos g2 o2
    refine h3 _ (k + c4) σ H2 _ (a2.le (by omega) : At0 C _ M0 H0 N _ Γ σ H2).ok a2.sat fun v3 H3 g3 o3 p3 => ?_
    have a3 := a2.gos g3 o3
    exact ⟨_, _, _, rfl, hr l ds hp M0 H0 N k _ _ D (a3.step (go.refl _) a3.ok (((a3.sat.set rfl).set (p2.ext (g3.k a2.ok))).set p3)) q r⟩
/-- the order of one's own lists does not matter -/
theorem hasS_swap {p p2 : Addr × List PyData} {ts : TS} (h : HasS C c ts Γ (p2 :: p :: A) B R) : HasS C c ts Γ (p :: p2 :: A) B R := fun M0 H0 N k σ H D a q r => by
  have sub1 : ∀ x ∈ ((p2 :: p :: A).map (·.1) ++ M0), x ∈ ((p :: p2 :: A).map (·.1) ++ M0) := fun x hx => by simp at hx ⊢; rcases hx with h | h | h | h <;> simp [h]
  have e : ∀ G : Hp, hide ((p2 :: p :: A).map (·.1) ++ M0) G = hide ((p :: p2 :: A).map (·.1) ++ M0) G := fun G => by
    funext b
    unfold hide
    have : b ∈ ((p2 :: p :: A).map (·.1) ++ M0) ↔ b ∈ ((p :: p2 :: A).map (·.1) ++ M0) := by
      simp only [List.map_cons, List.cons_append, List.mem_cons]; constructor <;> rintro (h | h | h) <;> simp [h]
    simp only [this]
  refine h M0 H0 N k σ H D ⟨⟨fun b hb => a.ok.dom b (sub1 b hb), a.ok.tabs, fun b hb => List.mem_append_right _ (a.ok0.sub b hb), a.ok.str⟩, a.ok0, a.gone, by rw [e]; exact a.kept, fun x hx => ?_, ?_, by rw [e]; exact a.sat⟩ q r
  · obtain ⟨h1, h2, ys, h3, h4⟩ := a.own x (by simp at hx ⊢; rcases hx with h | h | h <;> simp [h])
    exact ⟨h1, h2, ys, h3, by rw [e]; exact h4⟩
  · have := a.nd
    simp only [List.map_cons, List.nodup_cons, List.mem_cons, not_or] at this ⊢
    exact ⟨⟨fun z => this.1.1 z.symm, this.2.1⟩, this.1.2, this.2.2⟩
end
/-! ### new curves -/
/-- a new pair whose first is a new list -/
def rU (cs : List PyData) (s : PyData) : Res := fun C M H v H' => ∃ (p l : Addr) (xs : List V) (sv : V), v = .ref p ∧ NewAt H l ∧ l ∉ M ∧ H' l = some (.lst xs) ∧ DqAll C (hide (l :: M) H') xs cs ∧ hide (l :: M) H' p = some (.tup [.ref l, sv]) ∧ Dq C (hide (l :: M) H') sv s
section
variable {C : Cf} {Γ : Cxt} {te : TE} {cs : List PyData} {s : PyData} {M : List Addr} {H H' : Hp} {v : V} {c c1 c2 : Nat} {A : Own} {B : Post} {i j : Nat} {l : Addr}
theorem rU_dq (h : rU cs s C M H v H') : Dq C (hide M H') v (.tuple [.list cs, s]) := by
  obtain ⟨p, l, xs, sv, e, h1, h2, h3, h4, h5, h6⟩ := h
  have x := ext_more (H := H') (M := l :: M) (N := M) fun b hb => List.mem_cons_of_mem _ hb
  subst e
  exact .tup (x _ _ h5 fun ps z => by cases z) (.cons (.lst (by rw [hide_out h2]; exact h3) (h4.ext x)) (.cons (h6.ext x) .nil))
/-- return (found, slope), found one's own -/
theorem hasS_retU (hi : Γ[i]? = some (some (tyV (.ref l)))) (hj : Γ[j]? = some (some (tyD C s))) : HasS C 0 (tRet (tTup (tCons (tVar i) (tCons (tVar j) tNil)))) Γ [(l, cs)] B (rU cs s) := fun M0 H0 N k σ H D a q r => by
  obtain ⟨v, e1, e2⟩ := a.sat.2 i _ hi
  obtain ⟨sv, e3, p3⟩ := a.sat.2 j _ hj
  have e2 : v = .ref l := e2
  subst e2
  refine ⟨_, e1, _, e3, small_line (by simp), fun p hp => ?_⟩
  obtain ⟨h1, h2, xs, h3, h4⟩ := a.own (l, cs) (List.mem_cons_self ..)
  have o1 := a.ok.new (o := .tup [.ref l, sv]) hp
  have g1 : go C H (upd H p (.tup [.ref l, sv])) := go.new hp
  have a1 := a.gos g1 o1
  have hpm := a.ok.out hp
  have x := g1.k a.ok
  refine r _ _ a1.gone a1.ok0 ⟨p, l, xs, sv, rfl, h1, h2, ?_, h4.ext x, ?_, Ty.mono (tyD C s) x p3⟩
  · rw [upd_ne fun z => by rw [z, hp] at h3; cases h3]; exact h3
  · have : p ∉ l :: M0 := hpm
    rw [hide_out this]; exact upd_same
/-- a call that gives a new curve, as a datum -/
theorem has_callU {τc : PyData} {F : List PyData → Res → Prop} {n : Nat} {E : XK} {tr : TA} {ds : List PyData} (ha : HasA C c1 tr Γ (fun l => l = ds)) (hl : ds.length = n) (hF : F ds (rU cs s)) : HasE C (c1 + c2) (tCall (spR C.T C.K c2 F n) [] E tr) Γ (tyD C (.tuple [.list cs, s])) :=
  has_callR ha fun l e => ⟨by rw [e]; exact hl, rU cs s, by rw [e]; exact hF, fun _ _ _ _ h => rU_dq h⟩
/-- return f(..), a new curve -/
theorem hasS_retCU {F : List PyData → Res → Prop} {n : Nat} {E : XK} {tr : TA} {ds : List PyData} (ha : HasA C c1 tr Γ (fun l => l = ds)) (hl : ds.length = n) (hF : F ds (rU cs s)) : HasS C (c1 + c2) (tRet (tCall (spR C.T C.K c2 F n) [] E tr)) Γ A B (rU cs s) := fun M0 H0 N k σ H D a q r =>
  ha _ (k + c2) σ H _ (a.le (by omega) : At0 C _ M0 H0 N A Γ σ H).ok a.sat fun xs H1 es g1 o1 e p1 => by
    subst e
    have a1 := a.gos g1 o1
    refine ⟨C.S, _, k, es, rU cs s, by rw [List.append_nil, dA_len p1, hl], o1, by rw [List.append_nil]; exact p1, hF, fun v H2 g2 o2 p2 => ?_⟩
    have a2 := a1.gos g2 o2
    obtain ⟨p, l, xs, sv, e, h1, h2, h3, h4, h5, h6⟩ := p2
    have x : ExtN (hide (l :: (A.map (·.1) ++ M0)) H2) (hide (l :: M0) H2) := ext_more fun b hb => by
      rcases List.mem_cons.mp hb with z | z
      · rw [z]; exact List.mem_cons_self ..
      · exact List.mem_cons_of_mem _ (List.mem_append_right _ z)
    exact r v H2 a2.gone a2.ok0 ⟨p, l, xs, sv, e, newAt_back a1.gone (fun z => h2 (a1.ok.sub _ z)) h1, fun z => h2 (List.mem_append_right _ z), h3, h4.ext x, x _ _ h5 (fun ps z => by cases z), h6.ext x⟩
end
end Q6
end
section
set_option maxHeartbeats 4000000
/-! {key: value for x in xs}, the keys tuples: the comprehension's walk. -/
namespace Q6
open PySem PySem.Spec PyProof.Rows L2 LamX RZ
/-- D[k] = v by a comprehension, k a tuple -/
theorem put_tup {X : Cx} {pins : List (Addr × Obj)} {σ : L2.St} {H : Hp} {s : Shared} {E : Value → Shared → Prop} {D b : Addr} {kvs : List (List L2.Key × V)} {k : List L2.Key} {v : V} {r : Value} {Q : Unit → Shared → Prop} (hu : X.A.units + 1 < cLine) (I : Inv X pins σ H s)
    (hD : H D = some (.dT kvs)) (hb : H b = some (.tup (k.map kV))) (hz : kvs.length < sizeLine) (rv : RelV v r) (h : ∀ s', Inv X pins σ (upd H D (.dT (putK kvs k v))) s' → Q () s') : wpAny (model X.prog X.w) X.A (dictSet D (.ref b) r) Q E s := by
  obtain ⟨z, hd, xs, rel, dd⟩ := dt_of I.hok hD
  have hl : (putK kvs k v).length ≤ sizeLine := by have := length_putK kvs k v; omega
  refine wpAny_dictSet_heap (hsz := by rw [← Paired.length rel]; exact z) (show X.A.units < cLine by omega) (key_of I.hok hb) dd fun h' dd' hs => h _ ?_
  obtain ⟨q, es, ep, e1, e2, e3, e4, _, e5⟩ := dd'
  exact d_write I (by rw [hD]; exact True.intro) hs ⟨q, e1⟩ ⟨hl, hd, _, (rel.put k hb rv).keeps fun c ys ec => by rw [upd_ne (ne_of ec hD fun z => nomatch z)]; exact ec, q, es, ep, e1, e2, e3, e4, e5⟩
/-- the walk: D the new dict, W by the turn and a measure -/
def tDcT (wi : TI) (g : TG) (tk tv : TE) (vs : List Nat) : TE := fun σ H Q => wi σ H fun J H1 => ∀ D, H1 D = none → ∃ W : Nat → Nat → Hp → Prop, (∃ m, W 0 m (upd H1 D (.dT []))) ∧ ∀ i m H, W i m H →
  (J.stop i H ∧ Q (.ref D) H) ∨ (J.go i H ∧ ∃ Nx : Hp → Prop, (∀ H', Nx H' → ∃ m', m' < m ∧ W (i + 1) m' H') ∧ ∀ x H', J.yld i H x H' → g x (wipe σ vs) H' fun σ2 H2 => wipe σ2 vs = wipe σ vs ∧
    tk σ2 H2 fun y H4 => tv σ2 H4 fun z H5 => ∃ kvs k b, y = .ref b ∧ H5 b = some (.tup (k.map kV)) ∧ H5 D = some (.dT kvs) ∧ kvs.length < sizeLine ∧ Nx (upd H5 D (.dT (putK kvs k z))))
section
variable {X : Cx}
theorem pe_dcT {kx vx tg iter : Expr} {scope : Scope} {own : List (Str × Nat)} {pos : Pos} {wi : TI} {g : TG} {tk tv : TE} (hu : X.A.units + 1 < cLine) (hc : X.calm = true) (hN : X.N.Nodup) (hi : PI X tg iter wi) (ok : BlkOk X.N X.env.scope scope own)
    (hg : ∀ (s : Shared) (H : Hp) (C : Addr) (cl : List (Str × Addr)) (fp : List Addr), PG (X.blk s H scope (compEnvC scope cl C X.env) fp) tg g)
    (hk : ∀ (s : Shared) (H : Hp) (C : Addr) (cl : List (Str × Addr)) (fp : List Addr), PE (X.blk s H scope (compEnvC scope cl C X.env) fp) kx tk)
    (he : ∀ (s : Shared) (H : Hp) (C : Addr) (cl : List (Str × Addr)) (fp : List Addr), PE (X.blk s H scope (compEnvC scope cl C X.env) fp) vx tv) (hs : ∀ x, foldedSetIterable iter X.env x = pure x := by intro _; rfl) :
    PE X (.DictComp kx vx [⟨tg, iter, [], 0⟩] scope pos) (tDcT wi g tk tv (own.map (·.2))) := by
  refine ⟨fun pins s σ H Q I h => ?_⟩
  rw [arm_eval_DictComp]
  have clo : ∀ y ∈ scope.names, y.2 = .free → ∃ c, X.env.cells.lookup y.1 = some c := fun y hy e => (ok.free y hy e).elim (fun k => I.ok.has _ (.inl k)) fun k => I.ok.has _ (.inr k)
  refine wpAny_comprehension_free rfl hs (closure_ok clo) ok.kind (fun y hy e => by rw [ok.uniq y hy, e]) (thn (hi.run pins s σ H _ I h) fun xv s1 hx => thn hx fun itv s2 got => ?_)
  obtain ⟨it, fp, tn, J, H2, rfl, I2, T, st2, f2, walk⟩ := got
  refine wpAny_newObj_type (newEnv_comp ?_)
  -- the dict stands, tracked
  let D := s2.heap.objs.size
  obtain ⟨W, ⟨m0, w0⟩, turn⟩ := walk D (I2.hok.fresh (Nat.le_refl _))
  let hD := s2.heap.push { cls := .type "dict", data := .dict #[] }
  let s3 : Shared := { s2 with heap := hD }
  let H3 := upd H2 D (.dT [])
  have kp3 : ∀ b o, s2.heap.get? b = some o → hD.get? b = some o := fun b o e => Heap.get?_push_of_some _ e
  have I3 : Inv X pins σ H3 s3 := I2.laid (t' := s2.toks) kp3 (Nat.le_refl _) (dt_empty s2.heap I2.big)
  have low : ∀ b ∈ fp, b < D := fun b hb => let ⟨_, e, _⟩ := T.obj _ _ st2 b hb; Heap.lt_size e
  have f3 : ∀ b ∈ fp, FpOk X pins H3 b ∧ b < s3.heap.objs.size := fun b hb =>
    ⟨⟨(upd_ne (Nat.ne_of_lt (low b hb))).trans (f2 b hb).1, (f2 b hb).2⟩, by show b < hD.objs.size; rw [Heap.size_push]; exact Nat.lt_succ_of_lt (low b hb)⟩
  have st3 : tn 0 s3.heap := T.keep _ _ _ st2 fun b _ o e => kp3 b o e
  have I4 := block_start I3 ok hN f3
  let ce := compEnvC scope (cellsFrom (s3.heap.objs.size + 1) scope.names (cloFrom X.env.cells scope.names [])) s3.heap.objs.size X.env
  let B := X.blk s3 H3 scope ce fp
  show codeAny _ _ (.compStart (.DictComp kx vx [⟨tg, iter, [], 0⟩] scope pos) 0 (.ref it) (.ref D) ce) _ { s3 with heap := pushCells (s3.heap.push { cls := .type "dict", data := .dict #[] }) scope.names }
  have I4 : Inv B [] (wipe σ (own.map (·.2))) H3 { s3 with heap := pushCells (s3.heap.push { cls := .type "dict", data := .dict #[] }) scope.names } := I4
  have kp4 : ∀ b o, s3.heap.get? b = some o → (pushCells (s3.heap.push { cls := .type "dict", data := .dict #[] }) scope.names).get? b = some o := fun b o e => pushCells_keeps _ _ _ _ (Heap.get?_push_of_some _ e)
  have st4 : tn 0 (pushCells (s3.heap.push { cls := .type "dict", data := .dict #[] }) scope.names) := T.keep _ _ _ st3 fun b _ o e => kp4 b o e
  have fpB : ∀ {σ' : L2.St} {H' : Hp} {s' : Shared}, Inv B [] σ' H' s' → (∀ b ∈ fp, H' b = none) → ∀ b ∈ fp, FpOk B [] H' b := fun {σ' H' s'} J hn b hb =>
    ⟨hn b hb, (J.ok.exf b hb).1, J.ok.exfs b hb, .inl hb, fun x c e => (J.ok.exf b hb).2 x c e, fun p hp => absurd (show p ∈ ([] : List (Addr × Obj)) ++ [] from hp) (by simp)⟩
  have loop : codeAny (model X.prog X.w) X.A (.compLoop (.DictComp kx vx [⟨tg, iter, [], 0⟩] scope pos) 0 (.ref it) (.ref D) ce) (compPost (model X.prog X.w) X.A X.xe none (EP X pins σ Q) (.ref D) s3.heap.objs.size) { s3 with heap := pushCells (s3.heap.push { cls := .type "dict", data := .dict #[] }) scope.names } := by
    refine compLoop_anyD (fun n s' => ∃ i H', Inv B [] (wipe σ (own.map (·.2))) H' s' ∧ tn i s'.heap ∧ (∀ b ∈ fp, H' b = none) ∧ W i n H') ?_ m0 ⟨0, H3, I4, st4, fun b hb => (f3 b hb).1.1, w0⟩
    rintro n s5 ⟨i, H5, I5, st5, n5, w5⟩
    rcases turn i n H5 w5 with ⟨stop, res⟩ | ⟨go', Nx, hNx, step⟩
    · refine thnF (T.done B rfl rfl rfl hc i [] s5 _ H5 (fun _ _ => False) I5 (fpB I5 n5) st5 stop) fun r s6 ⟨hr, I6⟩ => ?_
      subst hr
      have I7 : Inv X pins σ H5 s6 := I3.call' (ch := fp) I6.os I6.base I6.hok I6.bare fun b hb => ⟨(f3 b hb).1.2.2.2.1, (f3 b hb).1.2.1, (f3 b hb).1.2.2.2.2.1, (f3 b hb).1.2.2.2.2.2⟩
      have free : H5 s3.heap.objs.size = none := I6.free
      obtain ⟨m, hn, _⟩ := I6.loc
      obtain ⟨g0, g1, g2, g3, g4, g5⟩ := I3.fpOk (Nat.le_refl _) free
      exact ⟨m, (show s6.heap.Ns s3.heap.objs.size m from hn), fun h'' sb => ⟨.ref D, H5, I7.turned (t' := s6.toks) (fun b o hb e => (sb.2 b hb).trans e) g0 g1 g3 g4 g5, rfl, res⟩⟩
    · refine thnF (T.item B rfl rfl rfl hc i [] s5 _ H5 (fun _ _ => False) I5 (fpB I5 n5) st5 go') fun r s6 ⟨u, hr, h6⟩ => ?_
      subst hr
      refine thnF h6 fun _ s7 ⟨x, H7, I7, r7, y7, st7, n7⟩ => ?_
      refine thnF ((hg _ _ _ _ fp).run _ s7 _ H7 x u _ (I7.pinned (fpB I7 n7) (T.obj _ _ st7)) r7 (step x H7 y7)) fun _ s8 ⟨σ8, H8, I8, hw8, q8⟩ => ?_
      refine wpAny_tests_nil ?_
      simp only [if_true]
      refine thnF ((hk _ _ _ _ fp).run _ s8 σ8 H8 _ I8 q8) fun ku s10 ⟨yk, H10, I10, r10, q10⟩ => ?_
      refine thnF ((he _ _ _ _ fp).run _ s10 σ8 H10 _ I10 q10) fun vu s11 ⟨yv, H11, I11, r11, kvs, k, b, ek, hb11, hD11, hz11, nx⟩ => ?_
      subst ek
      cases (show ku = Value.ref b from r10)
      refine put_tup (X := B) hu I11 hD11 hb11 hz11 r11 fun s12 I12 => ?_
      obtain ⟨m', hm, w'⟩ := hNx _ nx
      have pin' : ∀ b ∈ fp, ∀ o, s7.heap.get? b = some o → s12.heap.get? b = some o ∧ upd H11 D (.dT (putK kvs k yv)) b = none := fun b hb o e =>
        let z := I12.pin (b, o) (List.mem_append_right _ (List.mem_append_right _ (mem_pinsAt hb e)))
        ⟨z.1, z.2.1⟩
      refine ⟨m', hm, i + 1, _, (I12.unpinned (pins := [])).weak (by rw [← wipe_length σ8 (own.map (·.2)), hw8]) (fun j v e => ?_), T.keep _ _ _ st7 fun b hb o e => (pin' b hb o e).1, fun b hb => ?_, w'⟩
      · rw [← hw8] at e
        exact (wipe_some e).1
      · obtain ⟨o, e, _⟩ := T.obj _ _ st7 b hb
        exact (pin' b hb o e).2
  exact codeAny_compStart_dict loop (T.self X.A 0 _ _ _ st4 loop)
end
end Q6
end
section
set_option maxHeartbeats 4000000
/-! sorted(xs, key=lambda x: x[0] * (y // x[1])), y of the def around. -/
namespace Q6
open PySem PySem.Spec PyProof.Rows L2 LamX RZ
/-- all objects but the one at L -/
def others (h : Heap) (L : Addr) : List (Addr × Obj) := (List.range h.objs.size).filterMap fun b => if b = L then none else (h.get? b).map fun o => (b, o)
theorem mem_others {h : Heap} {L b : Addr} {o : Obj} : (b, o) ∈ others h L ↔ b ≠ L ∧ h.get? b = some o := by
  unfold others
  rw [List.mem_filterMap]
  constructor
  · rintro ⟨a, ha, e⟩
    by_cases q : a = L
    · rw [if_pos q] at e; cases e
    · rw [if_neg q] at e
      cases z : h.get? a with
      | none => rw [z] at e; cases e
      | some u => rw [z] at e; cases e; exact ⟨q, z⟩
  · rintro ⟨n, e⟩
    exact ⟨b, List.mem_range.mpr (Heap.lt_size e), by rw [if_neg n, e]; rfl⟩
abbrev h0 : Heap := { objs := #[] }
theorem none0 (b : Addr) : h0.get? b = none := Heap.get?_none_of_le (Nat.zero_le _)
/-- the key by such a lambda -/
def keyI (m : Int) (q : Int × Int) : Int := q.1 * (m / q.2)
/-- a pair's place -/
def PairAt (K : PySem.W.Frag) (H : Hp) (x : V) (q : Int × Int) : Prop := ∃ t, x = .ref t ∧ H t = some (.tup [.int q.1, .int q.2])
def tSortK (K : PySem.W.Frag) (T : List (Addr × Str)) (te : TE) (i : Nat) : TE := fun σ H Q => te σ H fun v H1 => ∃ (a : Addr) (xs : List V) (qs : List (Int × Int)) (m : Int), v = .ref a ∧ H1 a = some (.lst xs) ∧ Tabs T H1 ∧ σ[i]? = some (some (.int m)) ∧
  Paired (PairAt K H1) xs qs ∧ (∀ q ∈ qs, CDivW m q.2 ∧ CMulW q.1 (m / q.2)) ∧ ∀ (ps : List ((Int × Int) × V)) (H2 : Hp) (p : Addr), ExtN H1 H2 → Tabs T H2 → ps.Perm (qs.zip xs) → ps.Pairwise (fun a b => keyI m a.1 ≤ keyI m b.1) → H2 p = none → Q (.ref p) (upd H2 p (.lst (ps.map (·.2))))
/-- what the lambda's scope must be -/
structure KeyS (sc scope : Scope) (x y : Str) : Prop where
  kind : scope.kind = .function
  co : scope.isCoroutine = false
  gen : scope.isGenerator = false
  cell : ∀ z ∈ scope.names, z.2 ≠ .cell
  lx : scope.names.lookup x = some .local
  ly : scope.names.lookup y = some .free
  free : ∀ z ∈ scope.names, z.2 = .free → sc.names.lookup z.1 = some .cell ∨ sc.names.lookup z.1 = some .free
def keySB (sc scope : Scope) (x y : Str) : Bool :=
  decide (scope.kind = .function) && !scope.isCoroutine && !scope.isGenerator && (scope.names.all fun z => !decide (z.2 = .cell) && (!decide (z.2 = .free) || decide (sc.names.lookup z.1 = some .cell) || decide (sc.names.lookup z.1 = some .free))) && decide (scope.names.lookup x = some .local) && decide (scope.names.lookup y = some .free)
theorem keyS_by {sc scope : Scope} {x y : Str} (h : keySB sc scope x y = true) : KeyS sc scope x y := by
  unfold keySB at h
  simp only [Bool.and_eq_true, Bool.or_eq_true, Bool.not_eq_true', decide_eq_true_eq, decide_eq_false_iff_not, List.all_eq_true] at h
  obtain ⟨⟨⟨⟨⟨h1, h2⟩, h3⟩, h4⟩, h5⟩, h6⟩ := h
  refine ⟨h1, h2, h3, fun z hz => (h4 z hz).1, h5, h6, fun z hz e => ?_⟩
  rcases (h4 z hz).2 with (q | q) | q
  · exact absurd e q
  · exact .inl q
  · exact .inr q
section
variable {X : Cx}
/-- the lambda's value at a pair, the heap's objects all as they were -/
theorem key_turn {M : Model} {prog : Program} {w : World} {A : Around} {h : Heap} {g : Array GenState} {d : Drawn} {os : OsState} {tk : Nat} {f c' cy t : Addr} {q : Str} {params : Arguments} {scope : Scope} {cl : List (Str × Addr)} {pm ctv : Value} {x y : Str} {n e m : Int} {um un ue : Tok} {nv ev : Value} {sc : Scope} {L : Addr} {ms : Str → Option Value} {need : List (Addr × Obj)}
    {p1 p2 p3 p4 p5 p6 p7 p8 p9 : Pos} {j1 j2 : Nat} (S : KeyS sc scope x y) (hx : (x == ("__debug__" : Str)) = false) (hy : (y == ("__debug__" : Str)) = false) (hyc : (y == ("__classdict__" : Str)) = false)
    (hbind : ∀ (v : Value), bindArgs (PySem.W.kla_fn "<lambda>" q params (.BinOp (.Subscript (.Name x p1) (.Constant (.int 0) j1 p2) p3) .Mult (.BinOp (.Name y p4) .FloorDiv (.Subscript (.Name x p5) (.Constant (.int 1) j2 p6) p7) p8) p9) scope cl pm (.ref c') ctv) ⟨[v], []⟩ = pure [(x, v)])
    (hd : A.depth < recursionLimit) (lim : h.NoLimit)
    (of : h.get? f = some (PySem.W.kla_obj "<lambda>" q params (.BinOp (.Subscript (.Name x p1) (.Constant (.int 0) j1 p2) p3) .Mult (.BinOp (.Name y p4) .FloorDiv (.Subscript (.Name x p5) (.Constant (.int 1) j2 p6) p7) p8) p9) scope cl pm c' ctv))
    (oc : ∃ (oc : Obj) (vs : Array Value) (t : Tok), h.get? c' = some oc ∧ oc.data = .fields vs ∧ vs[1]? = some (.str q t))
    (cl_y : cl.lookup y = some cy) (hcy : h.IsCell cy (some (.int m um))) (ht : IsTup h t #[.int n un, .int e ue]) (c1 : CDivW m e) (c2 : CMulW n (m / e))
    (F : Fr h0 L h ms) (N : News h0 L h need) :
    wpAny (model prog w) A (call (.ref f) [.ref t]) (KskEnd h0 L ms need (n * (m / e)) { heap := h, gens := g, drawn := d, toks := tk, os := os }) (fun _ _ => False) { heap := h, gens := g, drawn := d, toks := tk, os := os } := by
  obtain ⟨ob, vs, tq, hc1, hc2, hc3⟩ := oc
  have rc : codeAny (model prog w) A (.call (.ref f) ⟨[.ref t], []⟩) (fun r s' => match r with | .ok (.ret u) => KskEnd h0 L ms need (n * (m / e)) { heap := h, gens := g, drawn := d, toks := tk, os := os } u s' | _ => False) { heap := h, gens := g, drawn := d, toks := tk, os := os } := by
    refine PySem.W.kla_callFunE hd of rfl S.co S.gen rfl ⟨c', ob, vs, tq, rfl, hc1, hc2, hc3⟩ ?_
    rw [hbind]
    refine wpAny_pure (wpAny_newFunctionEnv (fun z hz => S.cell z hz) (fun z hz => ?_) (fun h₁ hns hsb => ?_) S.kind)
    · have : z = (x, Value.ref t) := by simpa using hz
      subst this
      exact S.lx
    have kp : ∀ b o, h.get? b = some o → h₁.get? b = some o := fun b o e => hsb.extBut b o (Nat.ne_of_lt (Heap.lt_size e)) (Heap.get?_push_of_some _ e)
    refine ⟨lim.keeps kp, PySem.W.kla_codeExpr ?_⟩
    have hm : (fun z => ([(x, Value.ref t)] : List (Str × Value)).reverse.lookup z) x = some (.ref t) := by simp [List.lookup]
    have hcy1 : h₁.IsCell cy (some (.int m um)) := let ⟨o, h1, h2⟩ := hcy; ⟨o, kp _ _ h1, h2⟩
    have ht1 : IsTup h₁ t #[.int n un, .int e ue] := let ⟨o, h1, h2⟩ := ht; ⟨o, kp _ _ h1, h2⟩
    have he1 : (0 : Int) < e := c1.1
    refine wpAny_BinOp (Subscript_ (wpAny_Name (wpAny_loadName_local S.kind S.lx hns hm ?_) hx))
    refine wpAny_Constant_int ?_
    refine subscriptTail_builtinR (x := .int n un) (T := "tuple") (let ⟨o, a, b, _⟩ := ht1; ⟨o, a, b⟩) slot_tuple_getitem.lookup (getItem_tuple (j := 0) (x := .int n un) ht1 (by decide) (by decide) rfl rfl ⟨rfl, ?_⟩) rfl
    refine wpAny_BinOp (wpAny_Name (wpAny_loadName_free S.kind S.ly cl_y hcy1 ?_ hyc) hy)
    refine Subscript_ (wpAny_Name (wpAny_loadName_local S.kind S.lx hns hm ?_) hx)
    refine wpAny_Constant_int ?_
    refine subscriptTail_builtinR (x := .int e ue) (T := "tuple") (let ⟨o, a, b, _⟩ := ht1; ⟨o, a, b⟩) slot_tuple_getitem.lookup (getItem_tuple (j := 1) (x := .int e ue) ht1 (by decide) (by decide) rfl rfl ⟨rfl, ?_⟩) rfl
    refine floordiv_int (by omega) ?_ (.inl (PyProof.noPylong_of_log2 c1.2))
    rw [Int.fdiv_eq_ediv_of_nonneg m (by omega)]
    refine mul_int ?_ c2.ok
    have F1 : Fr h0 L h₁ ms := ⟨let ⟨o, es, ep, ho, r⟩ := F.ns; ⟨o, es, ep, kp _ _ ho, r⟩, fun b o eb => by (rw [none0] at eb; cases eb), Nat.zero_le _⟩
    have N1 : News h0 L h₁ need := fun p hp => ⟨kp _ _ (N p hp).1, (N p hp).2⟩
    exact KskEnd.intro F1 N1 fun p hp => hp
  refine wpAny_call (codeAny_mono rc fun r s' hq => ?_)
  cases r with
  | error z => exact hq
  | ok fl =>
    cases fl with
    | ret u => exact hq
    | _ => exact hq.elim
theorem obj_there {P : Program} {w : World} {H : Hp} {h : Heap} {a : Addr} {o : HO} (x : ObjOk P w H h a o) : ∃ u, h.get? a = some u := by
  cases o with
  | lst xs => obtain ⟨_, _, _, _, e⟩ := x; exact ⟨_, e⟩
  | tup xs => obtain ⟨_, _, _, o, e, _⟩ := x; exact ⟨o, e⟩
  | dK kvs => obtain ⟨_, _, _, _, o, _, _, e, _⟩ := x; exact ⟨o, e⟩
  | dT kvs => obtain ⟨_, _, _, _, o, _, _, e, _⟩ := x; exact ⟨o, e⟩
  | set S n => obtain ⟨o, _, _, _, e, _⟩ := x; exact ⟨o, e⟩
  | ins C dx fs => obtain ⟨_, _, _, e, _⟩ := x; exact ⟨_, e⟩
  | own y => exact x
  | xd fs => obtain ⟨_, ⟨o, _, _, e, _⟩, _⟩ := x; exact ⟨o, e⟩
  | rng lo hi => obtain ⟨_, _, _, e⟩ := x; exact ⟨_, e⟩
  | frz ob u => exact ⟨ob, x.1⟩
  | tbl ps => exact ⟨_, x⟩
  | met f y => exact ⟨_, x⟩
  | ext φ => exact x.2.1
theorem paired_get {α β : Type} {R : α → β → Prop} : ∀ {xs : List α} {ys : List β} {i : Nat} {x : α}, Paired R xs ys → xs[i]? = some x → ∃ y, ys[i]? = some y ∧ R x y
  | _, _, _, _, .nil, e => by simp at e
  | _, _, 0, _, .cons h _, e => by simp at e; subst e; exact ⟨_, rfl, h⟩
  | _, _, i + 1, _, .cons _ r, e => by
    obtain ⟨y, h1, h2⟩ := paired_get (i := i) r (by simpa using e)
    exact ⟨y, by simpa using h1, h2⟩
theorem vals_get {xs : List V} {us : List Value} {i : Nat} {u : Value} (r : Vals xs us) (e : us[i]? = some u) : ∃ x, xs[i]? = some x ∧ RelV x u := by
  induction r generalizing i with
  | nil => simp at e
  | cons h _ ih =>
    cases i with
    | zero => simp at e; subst e; exact ⟨_, rfl, h⟩
    | succ i => simpa using ih (i := i) (by simpa using e)
theorem pe_sortK {te : TE} {T : List (Addr × Str)} {c P : Addr} {i : Nat} {x y z : Str} {params : Arguments} {scope : Scope} {p pz kp lpos pos p1 p2 p3 p4 p5 p6 p7 p8 p9 : Pos} {j1 j2 : Nat} (hg : Gl X "sorted") (hm : X.mg "sorted" = none) (hv : bootBuiltins "sorted" = some (.builtin "sorted")) (he : PE X (.Name z pz) te)
    (TB : TabB X.base X.mg c P) (hcode : X.env.code = .ref c) (hmT : (P, X.env.qual ++ "<lambda>") ∈ T) (hu : ∀ p ∈ T, p.1 = P → p.2 = X.env.qual ++ "<lambda>") (hr : Room 1 X.A) (hdef : defaultsOf params X.env = ([], []))
    (S : KeyS X.env.scope scope x y) (hN : X.N[i]? = some y) (hx : (x == ("__debug__" : Str)) = false) (hy : (y == ("__debug__" : Str)) = false) (hyc : (y == ("__classdict__" : Str)) = false) (hfy : X.fn y = true)
    (hbind : ∀ (q : Str) (cl : List (Str × Addr)) (pm cv ctv v : Value), bindArgs (PySem.W.kla_fn "<lambda>" q params (.BinOp (.Subscript (.Name x p1) (.Constant (.int 0) j1 p2) p3) .Mult (.BinOp (.Name y p4) .FloorDiv (.Subscript (.Name x p5) (.Constant (.int 1) j2 p6) p7) p8) p9) scope cl pm cv ctv) ⟨[v], []⟩ = pure [(x, v)]) :
    PE X (.Call (.Name "sorted" p) [.Name z pz] [⟨some "key", .Lambda params (.BinOp (.Subscript (.Name x p1) (.Constant (.int 0) j1 p2) p3) .Mult (.BinOp (.Name y p4) .FloorDiv (.Subscript (.Name x p5) (.Constant (.int 1) j2 p6) p7) p8) p9) scope lpos, kp⟩] pos) (tSortK X.K T te i) := by
  refine ⟨fun pins s σ H Q I h => ?_⟩
  refine wpAny_Call_Name_kw (ld_blt I hg hm hv ?_)
  refine callWith_kw (thn ((pa_cons he pa_nil).run pos pins s σ H (fun vs H1 => match vs with
    | [v] => ∃ (a : Addr) (xs : List V) (qs : List (Int × Int)) (m : Int), v = .ref a ∧ H1 a = some (.lst xs) ∧ Tabs T H1 ∧ σ[i]? = some (some (.int m)) ∧
    Paired (PairAt X.K H1) xs qs ∧ (∀ q ∈ qs, CDivW m q.2 ∧ CMulW q.1 (m / q.2)) ∧ ∀ (ps : List ((Int × Int) × V)) (H2 : Hp) (p : Addr), ExtN H1 H2 → Tabs T H2 → ps.Perm (qs.zip xs) → ps.Pairwise (fun a b => keyI m a.1 ≤ keyI m b.1) → H2 p = none → Q (.ref p) (upd H2 p (.lst (ps.map (·.2))))
    | _ => False) I h) fun us s1 ⟨vs, H1, I1, r1, got⟩ => ?_)
  obtain ⟨v, rfl⟩ : ∃ v, vs = [v] := by
    match vs, got with
    | [v], _ => exact ⟨v, rfl⟩
  obtain ⟨a, xs, qs, m, ea, ha, hT, hs, hp, hcd, fin⟩ := got
  subst ea
  obtain rfl := Vals.ref1 r1
  refine wpAny_evalAll_cons (wpAny_bind (lam_make2 I1 TB hcode hmT hu hT hdef (fun y hy e => ?_) fun f c' pm ctv H2 s2 I2 eN T2 hf hfn _ hco => wpAny_bind (wpAny_standAt (wpAny_pure (wpAny_evalAll_nil ?_)))))
  · rcases S.free y hy e with k | k
    · exact I1.ok.has _ (.inl k)
    · exact I1.ok.has _ (.inr k)
  show wpAny _ _ (call (.builtin "sorted") [.ref a] [(Str.ofString "key", .ref f)]) _ _ s2
  have ha2 : H2 a = some (.lst xs) := eN _ _ ha fun ps z => by cases z
  obtain ⟨its, rv, hl, hz⟩ := I2.list (sqL_of ha2)
  obtain ⟨ms, hns, hlk⟩ := I2.loc
  have hlen : xs.length = its.length := rv.length
  have hlen2 : qs.length = xs.length := (Paired.length hp).symm
  have F : Fr h0 X.env.locals s2.heap ms := ⟨hns, fun b o e => by (rw [none0] at e; cases e), Nat.zero_le _⟩
  have N : News h0 X.env.locals s2.heap (others s2.heap X.env.locals) := fun q hq => by
    obtain ⟨b, o⟩ := q
    obtain ⟨h1, h2⟩ := mem_others.mp hq
    exact ⟨h2, h1, none0 _⟩
  have hLf : f ≠ X.env.locals := fun z => by
    obtain ⟨o, es, ep, ho, hd, _⟩ := hns
    rw [z, ho] at hf
    cases hf
    cases hd
  -- the name y, where the lambda finds it
  obtain ⟨u, ru, lk⟩ := hlk i y (.int m) hN hs (by
    rcases S.free _ (PySem.mem_of_lookup S.ly) rfl with k | k
    · exact .inr (.inl k)
    · exact .inr (.inr k))
  obtain ⟨um, rfl⟩ : ∃ t, u = Value.int m t := ru
  have clo : ∀ z ∈ scope.names, z.2 = .free → ∃ c, X.env.cells.lookup z.1 = some c := fun z hz e => by
    rcases S.free z hz e with k | k
    · exact I1.ok.has _ (.inl k)
    · exact I1.ok.has _ (.inr k)
  obtain ⟨cy, hcy⟩ := mem_lookup (cloFrom_has (cells := X.env.cells) (acc := []) (PySem.mem_of_lookup S.ly))
  have hcy' : X.env.cells.lookup y = some cy := by
    rcases cloFrom_mem (PySem.mem_of_lookup hcy) with hm' | ⟨h1, h2⟩
    · cases hm'
    · obtain ⟨c1, hc⟩ := clo _ h1 rfl
      have hc : X.env.cells.lookup y = some c1 := hc
      rw [hc] at h2
      rw [hc, h2]; rfl
  have cellY : s2.heap.IsCell cy (some (.int m um)) := by
    rcases lk with ⟨k, _⟩ | ⟨_, c0, e0, z0⟩
    · have k : X.env.scope.names.lookup y = some .local := k
      rcases S.free _ (PySem.mem_of_lookup S.ly) rfl with k2 | k2 <;> rw [show X.env.scope.names.lookup y = _ from k2] at k <;> cases k
    · rw [hcy'] at e0; cases e0; exact z0
  have ne : ∀ {b : Addr} {o : Obj} {h : Heap} {own : List (Addr × Obj)}, News h0 X.env.locals h (others s2.heap X.env.locals ++ own) → b ≠ X.env.locals → s2.heap.get? b = some o → h.get? b = some o := fun {b o h own} N' hb e => (N' (b, o) (List.mem_append_left _ (mem_others.mpr ⟨hb, e⟩))).1
  refine ksk_sortedAny (kz := qs.map (keyI m)) (vs := its) (b := false) F N hl.isList (by rw [List.length_map, hlen2, hlen]) (by rw [← hlen]; exact hz) (ksk_s1 _ _) (fun _ => ksk_l1 _ _) (ksk_t1 f) (fun j w k hw hk h tk own F' N' => ?_) fun D h' tk out cc F' N' hlt ko => ?_
  · obtain ⟨xv, hxv, rxv⟩ := vals_get rv hw
    obtain ⟨q, hq, t, et, htup⟩ := paired_get hp hxv
    subst et
    cases rxv
    rw [List.getElem?_map, hq] at hk
    have ek : keyI m q = k := Option.some.inj hk
    subst ek
    obtain ⟨c1, c2⟩ := hcd q (List.mem_of_getElem? hq)
    have htup2 : H2 t = some (.tup [.int q.1, .int q.2]) := eN _ _ htup fun ps z => by cases z
    obtain ⟨_, its2, rv2, o2, e1, e2, n2, e3⟩ := (show ObjOk X.prog X.w H2 s2.heap t (.tup _) from I2.hok t _ htup2)
    have tL : t ≠ X.env.locals := fun z => by rw [z, I2.free] at htup2; cases htup2
    obtain ⟨⟨oc, vsc, tc, g1, g2, g3⟩, _, _⟩ := I2.hok c' _ hco
    have cL : c' ≠ X.env.locals := fun z => by rw [z, I2.free] at hco; cases hco
    cases rv2 with
    | cons ra rr =>
      cases rr with
      | cons rb rr =>
        cases rr
        obtain ⟨un, rfl⟩ : ∃ t, _ = Value.int q.1 t := ra
        obtain ⟨ue, rfl⟩ : ∃ t, _ = Value.int q.2 t := rb
        have room : X.A.in1.in1.depth < recursionLimit := hr.depth
        refine key_turn (M := model X.prog X.w) (nv := .none) (ev := .none) (cy := cy) (um := um) (un := un) (ue := ue) S hx hy hyc (fun v => hbind _ _ _ _ _ v) room ?_ (ne N' hLf hf) ⟨oc, vsc, tc, ne N' cL g1, g2, g3⟩ hcy ?_ ⟨o2, ne N' tL e1, ?_⟩ c1 c2 F' N'
        · exact I2.ok.mod.nolimit.keeps fun b o e => ne N' (Nat.ne_of_lt (Nat.lt_of_lt_of_le (Heap.lt_size e) (Nat.le_trans I2.ok.bsz I2.ok.above))) (I2.bk b o e)
        · obtain ⟨oy, h1, h2⟩ := cellY
          exact ⟨oy, ne N' (I2.cne y cy hcy') h1, h2⟩
        · exact ⟨e2, n2, e3⟩
  · -- the list that came
    obtain ⟨ps', hperm, hout, hord⟩ := ko
    have hz1 : ((qs.zip xs).zip its).map (fun z => (keyI m z.1.1, z.2)) = (qs.map (keyI m)).zip its := by
      have : ∀ (qs : List (Int × Int)) (xs : List V) (its : List Value), qs.length = xs.length → xs.length = its.length → ((qs.zip xs).zip its).map (fun z => (keyI m z.1.1, z.2)) = (qs.map (keyI m)).zip its := by
        intro qs
        induction qs with
        | nil => intro xs its _ _; rfl
        | cons q qs ih =>
          intro xs its h1 h2
          cases xs with
          | nil => cases h1
          | cons x xs =>
            cases its with
            | nil => cases h2
            | cons u its =>
              simp only [List.zip_cons_cons, List.map_cons]
              rw [ih xs its (by simpa using h1) (by simpa using h2)]
      exact this qs xs its hlen2 hlen
    obtain ⟨tr, htr, etr⟩ := perm_lift (fun z : ((Int × Int) × V) × Value => (keyI m z.1.1, z.2)) hperm ((qs.zip xs).zip its) hz1
    have hzip : ((qs.zip xs).zip its).map (·.1) = qs.zip xs := List.map_fst_zip (by simp; omega)
    have hps : (tr.map (·.1)).Perm (qs.zip xs) := by rw [← hzip]; exact htr.map _
    have hpw : (tr.map (·.1)).Pairwise (fun a b => keyI m a.1 ≤ keyI m b.1) := by
      rw [← etr, List.pairwise_map] at hord
      rw [List.pairwise_map]
      exact hord.imp fun {a b} h => by simpa using h
    have hvals : Vals ((tr.map (·.1)).map (·.2)) out.toList := by
      rw [hout, ← etr, List.map_map, List.map_map]
      have hm' : ∀ z ∈ tr, RelV z.1.2 z.2 := fun z hz => by
        have hz2 := htr.mem_iff.mp hz
        obtain ⟨n, hn⟩ := List.mem_iff_getElem?.mp hz2
        rw [List.getElem?_zip_eq_some] at hn
        obtain ⟨h1, h2⟩ := hn
        rw [List.getElem?_zip_eq_some] at h1
        obtain ⟨x0, hx0, r0⟩ := vals_get rv h2
        rw [h1.2] at hx0
        cases hx0
        exact r0
      clear hps hpw htr etr
      induction tr with
      | nil => exact .nil
      | cons z tr ih => exact .cons (hm' z (by simp)) (ih fun y hy => hm' y (by simp [hy]))
    have hlenO : ((tr.map (·.1)).map (·.2)).length ≤ sizeLine := by
      have := hps.length_eq
      rw [List.length_map, this, List.length_zip]
      omega
    have keepB : ∀ b o, b ≠ X.env.locals → s2.heap.get? b = some o → h'.get? b = some o := fun b o hb e => (N' (b, o) (List.mem_cons_of_mem _ (mem_others.mpr ⟨hb, e⟩))).1
    have nsK : ∀ mm, s2.heap.Ns X.env.locals mm → h'.Ns X.env.locals mm := fun mm hn => by
      have : mm = ms := by
        obtain ⟨o, es, ep, ho, hd, _, hf'⟩ := hn
        obtain ⟨o', es', ep', ho', hd', _, hf''⟩ := hns
        rw [ho] at ho'; cases ho'
        rw [hd] at hd'; cases hd'
        funext nm
        rw [← hf' nm, ← hf'' nm]
      rw [this]; exact F'.ns
    have DL : D ≠ X.env.locals := (N' (D, _) (List.mem_cons_self ..)).2.1
    have Dfree : H2 D = none := by
      cases q : H2 D with
      | none => rfl
      | some u =>
        obtain ⟨o, e⟩ := obj_there (I2.hok D u q)
        exact absurd (hlt _ (mem_others.mpr ⟨DL, e⟩)) (Nat.lt_irrefl _)
    have low : ∀ b o, b ≠ X.env.locals → s2.heap.get? b = some o → b < D := fun b o hb e => hlt _ (mem_others.mpr ⟨hb, e⟩)
    have Ds0 : X.s_0.heap.objs.size ≤ D := by
      obtain ⟨oy, h1, _⟩ := cellY
      exact Nat.le_trans (I2.ok.cab y cy hfy hcy') (Nat.le_of_lt (low cy oy (I2.cne y cy hcy') h1))
    have neT : ∀ b u, H2 b = some u → b ≠ X.env.locals := fun b u e z => by rw [z, I2.free] at e; cases e
    have I3 : Inv X pins σ H2 { s2 with heap := h', toks := tk } := I2.step (g' := s2.gens) (d' := s2.drawn) (ch := []) (fun b hb => absurd hb (by simp)) (fun b o hb _ _ e _ => keepB b o hb e) (fun b o hb _ _ e _ => ⟨o.slots, keepB b o hb e⟩) (fun _ _ _ _ n => n)
      (fun b o _ e => by
        by_cases q : b = X.env.locals
        · obtain ⟨o', _, _, e', _⟩ := F'.ns
          exact ⟨o', by rw [q]; exact e'⟩
        · exact ⟨o, keepB b o q e⟩) (fun _ _ e => e) (fun _ _ _ e => e) (fun b ps e => ⟨#[], by rw [e]; simp⟩) nsK
      (fun b u e => (I2.hok b u e).stay (fun d v hd q => keepB d v (by
        rcases hd with z | z
        · rw [z]; exact neT b u e
        · exact neT d _ z) q) (fun _ q => q) fun _ _ q => q) I2.bare
    have fD : FpOk X pins H2 D := ⟨Dfree, DL, fun hb => by
      obtain ⟨_, o, ho, _⟩ := I2.ok.funs.mem hb
      exact absurd (Nat.lt_of_lt_of_le (Heap.lt_size ho) Ds0) (Nat.lt_irrefl _), .inr Ds0, fun z c e q => by
        obtain ⟨v, o, ho, _⟩ := I2.cell z c e
        have := low c o (I2.cne z c e) ho
        rw [q] at this; exact Nat.lt_irrefl _ this, fun pp hp q => by
        obtain ⟨h1, _, h3, _⟩ := I2.pin pp hp
        have := low pp.1 pp.2 h3 h1
        rw [q] at this; exact Nat.lt_irrefl _ this⟩
    have I4 := I3.take (t' := tk) (o := .lst ((tr.map (·.1)).map (·.2))) (h' := h') (fun b ob _ e => e) ⟨fD.1, fD.2⟩ ⟨hlenO, out.toList, cc, hvals, by rw [Array.toArray_toList]; exact (N' (D, _) (List.mem_cons_self ..)).1⟩
    exact ⟨.ref D, _, I4, rfl, fin (tr.map (·.1)) H2 D eN T2 hps hpw fD.1⟩
end
end Q6
end
section
set_option maxHeartbeats 4000000
namespace Q6
open PySem PySem.Spec PyProof.Rows L2 LamX RZ
theorem yes_if {σ : L2.St} {H : Hp} {f g : Hp → Prop} (h : f H) : tYes σ H (fun b H3 => if b = true then f H3 else g H3) := by
  show (if true = true then f H else g H)
  rw [if_pos rfl]; exact h
theorem wipe_wipe {σ : L2.St} : ∀ {vs : List Nat}, wipe (wipe σ vs) vs = wipe σ vs := by
  intro vs
  apply List.ext_getElem?
  intro j
  by_cases hj : j ∈ vs
  · have key : ∀ (ys : List Nat) (τ : L2.St), j ∈ ys → j < τ.length → (wipe τ ys)[j]? = some none := by
      intro ys
      induction ys with
      | nil => intro τ h; cases h
      | cons y ys ih =>
        intro τ h hlt
        show ((wipe τ ys).set y none)[j]? = _
        by_cases z : y = j
        · subst z; rw [List.getElem?_set_self (by rw [wipe_length]; exact hlt)]
        · rw [List.getElem?_set_ne z]
          exact ih τ (by
            rcases List.mem_cons.mp h with y | y
            · exact absurd y.symm z
            · exact y) hlt
    by_cases hlt : j < σ.length
    · rw [key vs σ hj hlt, key vs (wipe σ vs) hj (by rw [wipe_length]; exact hlt)]
    · rw [List.getElem?_eq_none (by rw [wipe_length, wipe_length]; omega), List.getElem?_eq_none (by rw [wipe_length]; omega)]
  · rw [wipe_out hj]
section
variable {C : Cf} {Γ Δ Γ1 : Cxt} {te : TE} {c1 : Nat} {g g1 : TG} {wi wi1 : TI} {vs vs1 : List Nat}
/-- [e for x in xs for y in ys(x)] -/
theorem has_lc2 {α β : Type} (xs : List α) (enc : α → PyData) (ys : α → List β) (enc1 : β → PyData) (out : β → PyData) (hi : HasI C c1 wi Γ (fun l => l = xs.map enc)) (hz : (xs.flatMap ys).length ≤ 100000)
    (hs : ∀ x, x ∈ xs → ∃ ws Δ, HasG C g ws (wipeC Γ vs) (enc x) Δ ∧ (∀ i ∈ ws, i ∈ vs) ∧ HasI C 0 wi1 Δ (fun l => l = (ys x).map enc1) ∧
      ∀ y, y ∈ ys x → ∃ ws1 Δ1, HasG C g1 ws1 (wipeC Δ vs1) (enc1 y) Δ1 ∧ (∀ i ∈ ws1, i ∈ vs1) ∧ HasE C 0 te Δ1 (tyD C (out y))) :
    HasE C c1 (tLc2 wi g tYes wi1 g1 tYes te vs vs1) Γ (tyD C (.list ((xs.flatMap ys).map out))) := fun M k σ H Q ok st q =>
  hi M k σ H _ ok st fun J H1 ds g1' o1 eds w D hD => by
    subst eds
    have st1 := st.ext (g1'.k ok)
    have hDM := o1.out hD
    have hDS : D ∉ C.S := fun z => hDM (o1.sub _ z)
    have dropM : ∀ {kk : Nat} {H : Hp}, Ok C kk (D :: M) H → Ok C kk M H := fun o => ⟨fun b hb => o.dom b (List.mem_cons_of_mem _ hb), o.tabs, o1.sub, o.str⟩
    -- the state: what is made so far
    let Pv : List PyData → Hp → Prop := fun acc H => ∃ us, Ok C k (D :: M) H ∧ go C H1 H ∧ ExtN (hide M H1) (hide (D :: M) H) ∧ H D = some (.lst us) ∧ DqAll C (hide (D :: M) H) us acc
    have grow : ∀ {acc H H'}, Pv acc H → go C H H' → Ok C k (D :: M) H' → Pv acc H' := fun {acc H H'} ⟨us, o, g, x, hx, r⟩ g' o' => ⟨us, o', g.trans g', x.trans (g'.k o), g'.at hDS hx (fun ps z => by cases z), r.ext (g'.k o)⟩
    have push : ∀ {acc H us y d}, Pv acc H → H D = some (.lst us) → Dq C (hide (D :: M) H) y d → Pv (acc ++ [d]) (upd H D (.lst (us ++ [y]))) := fun {acc H us y d} ⟨us', o, g, x, hx, r⟩ hu p => by
      rw [hx] at hu
      have e : us' = us := by cases hu; rfl
      subst e
      refine ⟨us' ++ [y], o.upd hx hDS, ⟨hide_ext fun b ob nb eb t => ⟨nb, by rw [upd_ne fun z => by rw [z, hD] at eb; cases eb]; exact g.at nb eb t⟩, fun _ => (o.upd hx hDS (ys := us' ++ [y])).tabs⟩, ?_, upd_same, ?_⟩
      · rw [hide_upd (List.mem_cons_self ..)]; exact x
      · rw [hide_upd (List.mem_cons_self ..)]; exact dA_app r (dA_one p)
    have dom : ∀ {acc H}, Pv acc H → ∀ a ∈ D :: M, ∃ xs, H a = some (.lst xs) := fun ⟨us, o, _⟩ => o.dom
    have start : Pv [] (upd H1 D (.lst [])) := by
      refine ⟨[], (o1.new hD).cons upd_same, go.new hD, hide_ext fun b o nb eb _ => ?_, upd_same, .nil⟩
      have : b ≠ D := fun z => by rw [z, hD] at eb; cases eb
      exact ⟨fun z => by
        rcases List.mem_cons.mp z with z | z
        · exact this z
        · exact nb z, by rw [upd_ne this]; exact eb⟩
    have len : (xs.map enc).length = xs.length := by simp
    refine ⟨fun i m H => m = xs.length - i ∧ i ≤ xs.length ∧ Pv (((xs.take i).flatMap ys).map out) H, ⟨xs.length, by simp, Nat.zero_le _, by simpa using start⟩, ?_⟩
    rintro i m H2 ⟨rfl, hi2, pv⟩
    have wD := w (D :: M)
    obtain ⟨us, o2, g2, x2, hx2, r2⟩ := id pv
    by_cases hlt : i < xs.length
    · refine .inr ⟨wD.goes i H2 (by rw [len]; exact hlt) ⟨x2, o2.dom⟩, fun H' => i + 1 ≤ xs.length ∧ Pv (((xs.take (i + 1)).flatMap ys).map out) H', fun H' hN => ⟨xs.length - (i + 1), by omega, rfl, hN.1, hN.2⟩, fun x H3 hy => ?_⟩
      obtain ⟨hh, d, hd, p⟩ := wD.yields i H2 x H3 (by rw [len]; exact hlt) ⟨x2, o2.dom⟩ hy
      have g3 : go C H2 H3 ∧ Ok C k (D :: M) H3 := by
        rcases hh with z | ⟨To, ob, hTo, z⟩
        · subst z; exact ⟨go.refl _, o2⟩
        · subst z; exact ⟨go.new hTo, o2.new hTo⟩
      rw [List.getElem?_map, List.getElem?_eq_getElem hlt] at hd
      have ed : enc xs[i] = d := Option.some.inj hd
      subst ed
      obtain ⟨ws, Δ, hg, hw, hi1, hin⟩ := hs xs[i] (List.getElem_mem hlt)
      have pv3 := grow pv g3.1 g3.2
      refine hg (D :: M) (wipe σ vs) H3 x _ ((sat_wipe st1 vs).ext (x2.trans (g3.1.k o2))) p fun σ2 s2 w2 => ⟨(w2 vs hw).trans wipe_wipe, ?_⟩
      refine yes_if ?_
      refine hi1 (D :: M) k σ2 H3 _ g3.2 s2 fun J1 H4 ds1 g4 o4 e1 w1 => ?_
      subst e1
      have pv4 := grow pv3 g4 o4
      have len1 : ((ys xs[i]).map enc1).length = (ys xs[i]).length := by simp
      refine ⟨fun j m H => m = (ys xs[i]).length - j ∧ j ≤ (ys xs[i]).length ∧ Pv ((((xs.take i).flatMap ys) ++ (ys xs[i]).take j).map out) H ∧ ExtN (hide (D :: M) H4) (hide (D :: M) H), ⟨_, rfl, Nat.zero_le _, by simpa using pv4, ExtN.refl _⟩, ?_⟩
      rintro j m1 H5 ⟨rfl, hj, pv5, x5⟩
      obtain ⟨us5, o5, g5, x5', hx5, r5⟩ := id pv5
      have wD1 := w1 (D :: M)
      by_cases hlt1 : j < (ys xs[i]).length
      · refine .inr ⟨wD1.goes j H5 (by rw [len1]; exact hlt1) ⟨x5, o5.dom⟩, fun H' => j + 1 ≤ (ys xs[i]).length ∧ Pv ((((xs.take i).flatMap ys) ++ (ys xs[i]).take (j + 1)).map out) H' ∧ ExtN (hide (D :: M) H4) (hide (D :: M) H'), fun H' hN => ⟨(ys xs[i]).length - (j + 1), by omega, rfl, hN.1, hN.2⟩, fun x1 H6 hy1 => ?_⟩
        obtain ⟨hh1, d1, hd1, p1⟩ := wD1.yields j H5 x1 H6 (by rw [len1]; exact hlt1) ⟨x5, o5.dom⟩ hy1
        have g6 : go C H5 H6 ∧ Ok C k (D :: M) H6 := by
          rcases hh1 with z | ⟨To, ob, hTo, z⟩
          · subst z; exact ⟨go.refl _, o5⟩
          · subst z; exact ⟨go.new hTo, o5.new hTo⟩
        rw [List.getElem?_map, List.getElem?_eq_getElem hlt1] at hd1
        have ed1 : enc1 (ys xs[i])[j] = d1 := Option.some.inj hd1
        subst ed1
        obtain ⟨ws1, Δ1, hg1, hw1, he⟩ := hin (ys xs[i])[j] (List.getElem_mem hlt1)
        have pv6 := grow pv5 g6.1 g6.2
        have s2' := s2.ext ((g4.k g3.2).trans (x5.trans (g6.1.k o5)))
        refine hg1 (D :: M) (wipe σ2 vs1) H6 x1 _ (sat_wipe s2' vs1) p1 fun σ3 s3 w3 => ⟨(w3 vs1 hw1).trans wipe_wipe, ?_⟩
        refine yes_if ?_
        refine he (D :: M) k σ3 H6 _ g6.2 s3 fun y H7 g7 o7 py => ?_
        have pv7 := grow pv6 g7 o7
        obtain ⟨us7, _, _, _, hx7, r7⟩ := id pv7
        refine ⟨us7, hx7, ?_, hlt1, ?_, ?_⟩
        · rw [dA_len r7, List.length_map]
          have h1 : (((xs.take i).flatMap ys) ++ (ys xs[i]).take j).length < (xs.flatMap ys).length := by
            have e : xs = xs.take i ++ xs[i] :: xs.drop (i + 1) := by rw [List.getElem_cons_drop, List.take_append_drop]
            have e2 : (xs.flatMap ys).length = ((xs.take i).flatMap ys).length + ((ys xs[i]).length + ((xs.drop (i + 1)).flatMap ys).length) := by
              have h := congrArg (fun l : List α => (l.flatMap ys).length) e
              exact h.trans (by rw [List.flatMap_append, List.flatMap_cons, List.length_append, List.length_append])
            rw [e2, List.length_append, List.length_take]; omega
          exact Nat.lt_of_lt_of_le h1 (Nat.le_trans hz (small_line (Nat.le_refl _)))
        · have : (((xs.take i).flatMap ys) ++ (ys xs[i]).take (j + 1)).map out = (((xs.take i).flatMap ys) ++ (ys xs[i]).take j).map out ++ [out (ys xs[i])[j]] := by
            rw [List.take_succ, List.getElem?_eq_getElem hlt1, ← List.append_assoc, List.map_append]; rfl
          rw [this]
          exact push pv7 hx7 py
        · rw [hide_upd (List.mem_cons_self ..)]
          exact (x5.trans (g6.1.k o5)).trans (g7.k g6.2)
      · have ej : j = (ys xs[i]).length := by omega
        subst ej
        refine .inl ⟨by have := wD1.stops H5 ⟨x5, o5.dom⟩; rwa [len1] at this, hlt, ?_⟩
        have : ((xs.take (i + 1)).flatMap ys).map out = (((xs.take i).flatMap ys) ++ (ys xs[i]).take (ys xs[i]).length).map out := by
          rw [List.take_length, List.take_succ, List.getElem?_eq_getElem hlt, List.flatMap_append]; simp
        rw [this]; exact pv5
    · have ei : i = xs.length := by omega
      subst ei
      refine .inl ⟨by have := wD.stops H2 ⟨x2, o2.dom⟩; rwa [len] at this, q _ H2 (g1'.trans g2) (dropM o2) ?_⟩
      rw [List.take_length] at r2
      refine .lst ?_ (r2.ext (ext_more fun b hb => List.mem_cons_of_mem _ hb))
      rw [hide_out hDM]; exact hx2
end
end Q6
end
section
set_option maxHeartbeats 4000000
/-! What is raised: promises, blocks that raise. -/
namespace Q6
open PySem PySem.Spec PyProof.Rows L2 LamX RZ
/-- a call's end: a value, or an error of the class cls whose field f holds dv -/
inductive Out
  | ok (R : Res)
  | err (cls f : Str) (dv : PyData)
/-- the error's way out is open -/
def GoesT (C : Cf) (M : List Addr) (k : Nat) (H : Hp) (E : XK) (cls f : Str) (τe : Ty) : Prop := ∀ (d : Addr) (v : V) (H' : Hp), go C H H' → Ok C k M H' → H' d = some (.xd [(f, v)]) → τe.p v (hide M H') → E (.ref (He.ga C.K cls)) (some d) H'
abbrev Goes (C : Cf) (M : List Addr) (k : Nat) (H : Hp) (E : XK) (cls f : Str) (dv : PyData) : Prop := GoesT C M k H E cls f (tyD C dv)
def spE (T : List (Addr × Str)) (K : PySem.W.Frag) (c : Nat) (F : List PyData → Out → Prop) (n : Nat) : Sp := fun vs H Q E => ∃ (S M : List Addr) (k : Nat) (ds : List PyData) (O : Out), vs.length = n ∧ Ok ⟨K, T, S⟩ (k + c) M H ∧ DqAll ⟨K, T, S⟩ (hide M H) vs ds ∧ F ds O ∧
  (match O with
    | .ok R => ∀ v H', go ⟨K, T, S⟩ H H' → Ok ⟨K, T, S⟩ k M H' → R ⟨K, T, S⟩ M H v H' → Q v H'
    | .err cls f dv => Goes ⟨K, T, S⟩ M k H E cls f dv)
theorem len_E {T : List (Addr × Str)} {K : PySem.W.Frag} {c : Nat} {F : List PyData → Out → Prop} {n : Nat} {vs : List V} {H : Hp} {Q : VK} {E : XK} (s : spE T K c F n vs H Q E) : vs.length = n := by
  obtain ⟨S, M, k, ds, O, hl, _⟩ := s
  exact hl
/-- a block that raises -/
def HasRT (C : Cf) (c : Nat) (ts : TS) (Γ : Cxt) (A : Own) (E : XK) (cls f : Str) (τe : Ty) : Prop := ∀ (M0 : List Addr) (H0 N : Hp) (k : Nat) (σ : L2.St) (H : Hp) (D : Ends), At0 C (k + c) M0 H0 N A Γ σ H → GoesT C M0 k H0 E cls f τe → ts D σ H
abbrev HasR (C : Cf) (c : Nat) (ts : TS) (Γ : Cxt) (A : Own) (E : XK) (cls f : Str) (dv : PyData) : Prop := HasRT C c ts Γ A E cls f (tyD C dv)
/-- an expression that raises -/
def HasERT (C : Cf) (c : Nat) (te : TE) (Γ : Cxt) (E : XK) (cls f : Str) (τe : Ty) : Prop := ∀ (M : List Addr) (k : Nat) (σ : L2.St) (H : Hp) (Q : VK), Ok C (k + c) M H → Sat Γ σ (hide M H) → GoesT C M k H E cls f τe → te σ H Q
abbrev HasER (C : Cf) (c : Nat) (te : TE) (Γ : Cxt) (E : XK) (cls f : Str) (dv : PyData) : Prop := HasERT C c te Γ E cls f (tyD C dv)
def HasART (C : Cf) (c : Nat) (ta : TA) (Γ : Cxt) (E : XK) (cls f : Str) (τe : Ty) : Prop := ∀ (M : List Addr) (k : Nat) (σ : L2.St) (H : Hp) (Q : List V → Hp → Prop), Ok C (k + c) M H → Sat Γ σ (hide M H) → GoesT C M k H E cls f τe → ta σ H Q
abbrev HasAR (C : Cf) (c : Nat) (ta : TA) (Γ : Cxt) (E : XK) (cls f : Str) (dv : PyData) : Prop := HasART C c ta Γ E cls f (tyD C dv)
section
variable {C : Cf} {Γ Γ1 : Cxt} {A A1 : Own} {ta tb te : TE} {t : TT} {b : Bool} {t1 t2 : TS} {c c1 c2 c3 k : Nat} {E : XK} {cls f : Str} {dv : PyData} {τe : Ty} {R : Res} {τ : Ty} {d : PyData} {ds : List PyData} {H H' : Hp} {M : List Addr}
theorem GoesT.later (h : GoesT C M k H E cls f τe) (g : go C H H') : GoesT C M k H' E cls f τe := fun d v H2 g2 o x p => h d v H2 (g.trans g2) o x p
theorem GoesT.more {j : Nat} (h : GoesT C M j H E cls f τe) (l : j ≤ k) : GoesT C M k H E cls f τe := fun d v H2 g2 o x p => h d v H2 g2 (o.le l) x p
theorem At0.goes {M0 : List Addr} {H0 N : Hp} {σ : L2.St} {k' : Nat} (a : At0 C k' M0 H0 N A Γ σ H) (h : GoesT C M0 k H0 E cls f τe) : GoesT C (A.map (·.1) ++ M0) k H E cls f τe := fun d v H' g o x p =>
  h d v H' (a.gone.trans g) ⟨fun y hy => o.dom y (List.mem_append_right _ hy), o.tabs, a.ok0.sub, o.str⟩ x (τe.mono (ext_more fun b hb => List.mem_append_right _ hb) p)
theorem hasR_le (h : HasRT C c1 t1 Γ A E cls f τe) (l : c1 ≤ c) : HasRT C c t1 Γ A E cls f τe := fun M0 H0 N k σ H D a q => h M0 H0 N (k + (c - c1)) σ H D (a.le (by omega)) (q.more (by omega))
theorem hasR_0 (h : HasRT C c t1 Γ A E cls f τe) (e : c = 0) : HasRT C 0 t1 Γ A E cls f τe := by rw [← e]; exact h
theorem hasR_if (h : HasT C c1 t Γ (fun x => x = b)) (h1 : b = true → HasRT C c2 t1 Γ A E cls f τe) (h2 : b = false → HasRT C c3 t2 Γ A E cls f τe) : HasRT C (c1 + (c2 + c3)) (tIfS t t1 t2) Γ A E cls f τe := fun M0 H0 N k σ H D a q => h _ (k + (c2 + c3)) σ H _ (a.le (by omega) : At0 C _ M0 H0 N A Γ σ H).ok a.sat fun x H1 g1 o1 e => by
  have a' := a.gos g1 o1
  cases x with
  | true => exact hasR_le (h1 e.symm) (by omega) M0 H0 N k σ H1 D a' q
  | false => exact hasR_le (h2 e.symm) (by omega) M0 H0 N k σ H1 D a' q
theorem hasR_seq1 (h : HasRT C c t1 Γ A E cls f τe) : HasRT C c (tSeq t1 t2) Γ A E cls f τe := fun M0 H0 N k σ H D a q => h M0 H0 N k σ H _ a q
theorem hasR_seq (h1 : HasS C c1 t1 Γ A (to Γ1 A1) R) (hR : ∀ M0 H0 v H', R C M0 H0 v H' → False) (h2 : HasRT C c2 t2 Γ1 A1 E cls f τe) : HasRT C (c1 + c2) (tSeq t1 t2) Γ A E cls f τe := fun M0 H0 N k σ H D a q =>
  h1 M0 H0 N (k + c2) σ H _ (a.le (by omega)) (fun Γ' A' σ' H' ⟨w, e⟩ a' => by
    subst e
    exact h2 M0 H0 N k σ' H' D (a'.wk w) q) fun v H' g o x => (hR _ _ _ _ x).elim
/-- if t: (not now) ; rest -/
theorem hasR_pass (h : HasT C c1 t Γ (fun x => x = b)) (hb : b = false) (h2 : HasRT C c2 t2 Γ A E cls f τe) : HasRT C (c1 + c2) (tSeq (tIfS t t1 tNext) t2) Γ A E cls f τe := fun M0 H0 N k σ H D a q => h _ (k + c2) σ H _ (a.le (by omega) : At0 C _ M0 H0 N A Γ σ H).ok a.sat fun x H1 g1 o1 e => by
  rw [e, hb]
  exact h2 M0 H0 N k σ H1 D (a.gos g1 o1) q
theorem hasR_ret (h : HasERT C c te Γ E cls f τe) : HasRT C c (tRet te) Γ A E cls f τe := fun M0 H0 N k σ H D a q => h _ k σ H _ a.ok a.sat (a.goes q)
theorem hasR_asg {g : TG} (h : HasERT C c te Γ E cls f τe) : HasRT C c (tAsg te g) Γ A E cls f τe := fun M0 H0 N k σ H D a q => h _ k σ H _ a.ok a.sat (a.goes q)
theorem hasER_callA {sp : Sp} {E' : XK} {tr : TA} (h : HasART C c tr Γ E cls f τe) : HasERT C c (tCall sp [] E' tr) Γ E cls f τe := fun M k σ H Q o s q => h M k σ H _ o s q
theorem hasAR_here {tr : TA} (h : HasERT C c te Γ E cls f τe) : HasART C c (tCons te tr) Γ E cls f τe := fun M k σ H Q o s q => h M k σ H _ o s q
theorem hasAR_next {tr : TA} (h1 : HasE C c1 te Γ τ) (h : HasART C c2 tr Γ E cls f τe) : HasART C (c1 + c2) (tCons te tr) Γ E cls f τe := fun M k σ H Q o s q =>
  h1 M (k + c2) σ H _ (o.le (by omega)) s fun v H1 g1 o1 p => h M k σ H1 _ o1 (s.ext (g1.k o)) (q.later g1)
theorem hasER_call {F : List PyData → Out → Prop} {n : Nat} {tr : TA} (ha : HasA C c1 tr Γ (fun l => l = ds)) (hl : ds.length = n) (hF : F ds (.err cls f dv)) : HasER C (c1 + c2) (tCall (spE C.T C.K c2 F n) [] E tr) Γ E cls f dv := fun M k σ H Q o s q =>
  ha M (k + c2) σ H _ (o.le (by omega)) s fun xs H1 es g1 o1 e p => by
    subst e
    exact ⟨C.S, M, k, es, _, by rw [List.append_nil, dA_len p, hl], o1, by rw [List.append_nil]; exact p, hF, q.later g1⟩
/-- a call that does not raise -/
theorem has_callO {F : List PyData → Out → Prop} {n : Nat} {E' : XK} {tr : TA} {ρ : Res} (ha : HasA C c1 tr Γ (fun l => l = ds)) (hl : ds.length = n) (hF : F ds (.ok ρ)) (hρ : ∀ M H v H', ρ C M H v H' → τ.p v (hide M H')) : HasE C (c1 + c2) (tCall (spE C.T C.K c2 F n) [] E' tr) Γ τ := fun M k σ H Q o s q =>
  ha M (k + c2) σ H _ (o.le (by omega)) s fun xs H1 es g1 o1 e p => by
    subst e
    exact ⟨C.S, M, k, es, _, by rw [List.append_nil, dA_len p, hl], o1, by rw [List.append_nil]; exact p, hF, fun v H' g2 o2 p2 => q v H' (g1.trans g2) o2 (hρ _ _ _ _ p2)⟩
theorem has_callD {F : List PyData → Out → Prop} {n : Nat} {E' : XK} {tr : TA} (ha : HasA C c1 tr Γ (fun l => l = ds)) (hl : ds.length = n) (hF : F ds (.ok (rD d))) : HasE C (c1 + c2) (tCall (spE C.T C.K c2 F n) [] E' tr) Γ (tyD C d) := has_callO ha hl hF fun _ _ _ _ h => h
theorem has_callOU {F : List PyData → Out → Prop} {n : Nat} {E' : XK} {tr : TA} {cs : List PyData} {s : PyData} (ha : HasA C c1 tr Γ (fun l => l = ds)) (hl : ds.length = n) (hF : F ds (.ok (rU cs s))) : HasE C (c1 + c2) (tCall (spE C.T C.K c2 F n) [] E' tr) Γ (tyD C (.tuple [.list cs, s])) := has_callO ha hl hF fun _ _ _ _ h => rU_dq h
/-! ### raise -/
def spI (C0 : Addr) (f : Str) : Sp := fun vs H Q _ => ∃ (a : Addr) (y : V), vs = [.ref a, y] ∧ H a = some (exo a C0 none) ∧ ∀ dx, H dx = none → dx ≠ a → Q .non (upd (upd H dx (exd dx [(f, y)])) a (exo a C0 (some dx)))
theorem hasR_raise {CK : Addr} (hC : CK = He.ga C.K cls) (h : HasE C c te Γ τe) : HasRT C c (fun _ σ H => tMkO CK (spI CK f) [] (tCons te tNil) σ H fun cl d H' => E cl d H') Γ A E cls f τe := fun M0 H0 N k σ H D a q =>
  h _ k σ H _ a.ok a.sat fun v H1 g1 o1 p => ⟨by simp, fun x hx => ⟨x, v, rfl, upd_same, fun dx hdx hne => ⟨rfl, dx, [(f, v)], upd_same, by rw [upd_ne hne]; exact upd_same, by rwa [upd_ne hne] at hdx, by
    have hd : H1 dx = none := by rwa [upd_ne hne] at hdx
    have e : upd (del (upd (upd (upd H1 x (exo x CK none)) dx (exd dx [(f, v)])) x (exo x CK (some dx))) x) dx (.xd [(f, v)]) = upd H1 dx (.xd [(f, v)]) := by
      funext b
      by_cases hb : b = dx
      · rw [hb, upd_same, upd_same]
      · rw [upd_ne hb, upd_ne hb]
        by_cases hb2 : b = x
        · rw [hb2, del_same, hx]
        · rw [del_ne hb2, upd_ne hb2, upd_ne hb, upd_ne hb2]
    rw [e, hC]
    have a' := a.gos g1 o1
    exact a'.goes q dx v _ (go.new hd) (o1.new hd) upd_same (τe.mono ((go.new (C := C) hd).k o1) p)⟩⟩⟩
end
/-! ### a class of errors -/
structure Xc (K : PySem.W.Frag) (mg : Str → Option Value) (cls f : Str) (i : Nat) : Prop where
  oex : OexC K (He.ga K cls)
  gm : mg cls = some (.ref (He.ga K cls))
  nof : PySem.W.findIn K (.ref (He.ga K cls)) f = some none
  ini : ∃ fI fd, PySem.W.findIn K (.ref (He.ga K cls)) "__init__" = some (some (.ref fI)) ∧ PySem.W.typeIn K (.ref fI) = some (.type "function") ∧ FunD K "__init__" (cls ++ ".__init__") (defArgs (ini i)) (defBody (ini i)) (defScope (ini i)) [] [] fI fd
section
variable {P : Program} {w : World} {K : PySem.W.Frag} {mg : Str → Option Value} {base : Heap} {cls f : Str} {i : Nat} {X : Cx} {W : WX} {e : Expr} {te : TE} {p pos rpos p1 p2 p3 p4 : Pos}
/-- raise cls(e) -/
theorem ps_raiseX (T : Xc X.K X.mg cls f i) (hs : FnScope (["self", f] : List Str) ["self", f] (defScope (ini i))) (hf : (f == ("__debug__" : Str)) = false) (hf2 : (f == ("__classdict__" : Str)) = false) (v0 : Vis (defScope (ini i)) "self") (v1 : Vis (defScope (ini i)) f)
    (hb : ∀ (q : Str) (kV doc pm : Value) (an : Option Addr) (cdv ct : Value) (us : List Value), us.length = 2 → bindArgs (PySem.W.fnOf "__init__" q (defArgs (ini i)) (defBody (ini i)) (defScope (ini i)) .none kV doc pm an cdv ct) ⟨us, []⟩ = pure ((["self", f] : List Str).zip us))
    (hbody : defBody (ini i) = [.Assign [.Attribute (.Name "self" p1) f p2] (.Name f p3) p4])
    (hc : X.calm = true) (tk : Takes X W) (hr : Room 2 X.A) (hg : Gl X cls) (he : PE X e te) (hdb : (cls == ("__debug__" : Str)) = false)
    (hst : starEach [e] X.env = [(false, eval e X.env)]) :
    PS X (.Raise (some (.Call (.Name cls p) [e] [] pos)) none rpos) (fun _ σ H => tMkO (He.ga X.K cls) (spI (He.ga X.K cls) f) [] (tCons te tNil) σ H fun cl d H' => W cl d σ H') := by
  obtain ⟨fI, fd, iC, tI, FD⟩ := T.ini
  have F1 : FnOk X.prog X.w X.K X.mg X.base CX0 1 fI fd ["self", f] (spI (He.ga X.K cls) f) := FD.ok hs (fun vs H Q E h => by
    obtain ⟨a, y, e, _⟩ := h
    rw [e]; rfl) fun cdv A outer s H vs Q E hr' hsp => by
      rw [hbody]
      obtain ⟨a, y, ev, ea, q⟩ := hsp
      subst ev
      refine ⟨_, pss_one (ps_ost (pe_var (i := 0) rfl v0) (pe_var (i := 1) rfl v1 hf hf2) (by rfl)), ?_⟩
      have s0 : (L2.start (["self", f] : List Str) [V.ref a, y])[0]? = some (some (V.ref a)) := rfl
      have s1 : (L2.start (["self", f] : List Str) [V.ref a, y])[1]? = some (some y) := rfl
      exact ⟨y, s1, .ref a, s0, a, He.ga X.K cls, rfl, T.oex, T.nof, .inl ⟨ea, fun dx h1 h2 => q dx h1 h2⟩⟩
  have hB : Binds X.K fd ["self", f] [] := FD.bindsN fun kV doc pm an cdv ct us hl => hb _ kV doc pm an cdv ct us hl
  exact ps_raise hc tk (pmk_oex T.oex iC tI F1 hr hB .nil pass0 hg T.gm (pa_cons he pa_nil (by rw [hst]; rfl)) hdb (by rw [hst]; rfl) (by rfl))
end
end Q6
end
section
set_option maxHeartbeats 4000000
/-! enumerate(xs), xs a list or a tuple. -/
namespace Q6
open PySem PySem.Spec PyProof.Rows L2 LamX RZ
/-- the tuple at a as it stands at each turn, each item in a new pair -/
def IteT (K : PySem.W.Frag) (a : Addr) : It :=
  ⟨fun i H => ∃ (xs : List V) (x : V), SqT K H a xs ∧ xs[i]? = some x, fun i H v H' => ∃ T x, v = .ref T ∧ H T = none ∧ H' = upd H T (.tup [.int (i : Nat), x]) ∧ ∀ xs, SqT K H a xs → xs[i]? = some x, fun i H => ∃ xs : List V, SqT K H a xs ∧ xs.length = i⟩
theorem turn_enumT {P : Program} {w : World} {K : PySem.W.Frag} {elts : List Expr} {kk : Nat} {tpos : Pos} (a e it : Addr) (hea : e ≠ a) (hai : a ≠ it) :
    Turn P w K (.Tuple elts kk tpos) (IteT K a) [e, it] e (fun i h => (∃ old, IsEnum h e it ((i : Nat) : Int) old) ∧ h.IsTupleIter it a i ∧ e ≠ it) where
  mem := by simp
  obj := fun i h st b hb => by
    obtain ⟨⟨old, he⟩, ⟨o, ho, _, hd⟩, _⟩ := st
    rcases (by simpa using hb : b = e ∨ b = it) with rfl | rfl
    · exact ⟨_, he, fun v q => nomatch q⟩
    · exact ⟨o, ho, fun v q => by rw [hd] at q; cases q⟩
  keep := fun i h h' ⟨⟨old, he⟩, hi, hne⟩ k => ⟨⟨old, k e (by simp) _ he⟩, hi.at fun o q => k it (by simp) o q, hne⟩
  item := by
    intro X hP hw hK hc i pins s σ H E I hf st hg
    subst hP hw hK
    obtain ⟨⟨old, he⟩, hit, hne⟩ := st
    obtain ⟨xs, x, hq, hx⟩ := hg
    obtain ⟨its, rv, p, hz⟩ := I.tuple hq
    obtain ⟨u, hu, ru⟩ := rv.get hx
    have hel : e < s.heap.objs.size := Heap.lt_size he
    have hil : it < s.heap.objs.size := let ⟨_, q, _⟩ := hit; Heap.lt_size q
    have hlt : i < its.toArray.size := by
      rw [List.size_toArray]
      exact (List.getElem?_eq_some_iff.mp hu).1
    refine wpAny_pyNext_enum_itemC (Draws.tuple (A := X.A.in1) (I.ok.hd hc) it a hai its.toArray) he ⟨hit, p⟩ hlt hne (by simp [hea, hne]) fun x' h' tk hx' ho hst hT hsz hk => ?_
    have ex : x' = u := by
      have h1 : its.toArray[i]? = some x' := hx'
      have h2 : its.toArray[i]? = some u := by simpa using hu
      rw [h1] at h2; exact Option.some.inj h2
    subst ex
    refine ⟨_, rfl, wpAny_letOwnedTupleGo_enum (s := { s with heap := h', toks := tk + 1 }) ho fun h'' he' sb => ?_⟩
    have hT2 : h''.get? s.heap.objs.size = some { cls := .type "tuple", data := .seq #[.int i tk, x'] } := (sb.2 _ (Nat.ne_of_gt hel)).trans hT
    have new : ObjOk X.prog X.w (upd H s.heap.objs.size (.tup [.int (i : Nat), x])) h'' s.heap.objs.size (.tup [.int (i : Nat), x]) :=
      ⟨small_line (by simp), [.int i tk, x'], .cons ⟨_, rfl⟩ (.cons ru .nil), ⟨_, hT2, rfl, _, rfl⟩⟩
    have I1 : Inv X pins σ (upd H s.heap.objs.size (.tup [.int (i : Nat), x])) { s with heap := h'', toks := tk + 1 } :=
      I.turnedNew (ch := [e, it]) (fun b ob hb q => (sb.2 b fun z => hb (by simp [z])).trans (hk b ob (fun z => hb (by simp [z])) (fun z => hb (by simp [z])) q)) hf (Nat.le_refl _) new
    refine ⟨.ref s.heap.objs.size, _, I1, rfl, ⟨_, x, rfl, I.hok.fresh (Nat.le_refl _), rfl, fun ys hy => by rw [I.tuple_inj hy hq]; exact hx⟩, ⟨⟨x', ?_⟩, hst.1.at fun o q => (sb.2 it (Ne.symm hne)).trans q, hne⟩, fun b hb => ?_⟩
    · rw [show ((i + 1 : Nat) : Int) = (i : Int) + 1 by omega]; exact he'
    · have hb' : b < s.heap.objs.size := by
        rcases (by simpa using hb : b = e ∨ b = it) with z | z
        · rw [z]; exact hel
        · rw [z]; exact hil
      exact (upd_ne (Nat.ne_of_lt hb')).trans (hf b hb).1
  done := by
    intro X hP hw hK hc i pins s σ H E I hf st hg
    subst hP hw hK
    obtain ⟨⟨old, he⟩, hit, hne⟩ := st
    obtain ⟨xs, hq, hx⟩ := hg
    obtain ⟨its, rv, p, hz⟩ := I.tuple hq
    obtain ⟨f0, f1, f2, f3, f4, f5⟩ := hf it (by simp)
    have hl : i = its.toArray.size := by rw [List.size_toArray, ← rv.length]; exact hx.symm
    exact wpAny_pyNext_enum_endD (Draws.tuple (A := X.A.in1) (I.ok.hd hc) it a hai its.toArray) he (by rw [← hl]; exact ⟨hit, p⟩) fun h' eb => ⟨rfl, I.turned (t' := s.toks) (fun b o hb q => eb b o hb q) f0 f1 f3 f4 f5⟩
  self := fun A i s Q E ⟨⟨_, he⟩, _⟩ h => wpAny_pyIter_enum he h
/-- enumerate's two new cells, xs a tuple -/
theorem meets_enumT {v : Value} {o : Obj} {H : Heap → Prop} (B : Begins v o H) :
    Meets (Builtin.«enumerate.__new__» ⟨[.type "enumerate", v], []⟩) (fun _ R s => H s.heap ∧
      R (.ok (.ret (.ref (s.heap.push o).objs.size))) { s with heap := (s.heap.push o).push { cls := .type "enumerate", data := .fields #[.none, .bool false, .ref s.heap.objs.size, rawInt 0, .none, .none] } }) :=
  .of_wp fun prog w A R s h => by
    obtain ⟨hp, g, d, tk, os⟩ := s
    obtain ⟨h1, h⟩ := h
    have hsub := sub_enumerate
    have q1 : ∀ {A' : Around} {E : Value → Shared → Prop} {Q : Value → Shared → Prop}, Q (.ref hp.objs.size) ⟨hp.push o, g, d, tk, os⟩ → wpAny (model prog w) A' (pyIter v) Q E ⟨hp, g, d, tk, os⟩ :=
      fun q => B.iter prog w _ _ ⟨hp, g, d, tk, os⟩ _ h1 q
    wp_walk using q1
    refine wpAny_stack_any fun st => wpAny_pure ?_
    split
    · rename_i c _ _ _ _ _
      cases (c == Value.type "enumerate")
      · wp_walk using q1
        exact ⟨_, rfl, h⟩
      · wp_walk using q1
        exact ⟨_, rfl, h⟩
    · wp_walk using q1
      exact ⟨_, rfl, h⟩
/-- enumerate(xs), xs a tuple -/
theorem call_enumT {prog : Program} {w : World} {A : Around} {E : Value → Shared → Prop} {s : Shared} {t : Addr} {items : Array Value} {Q : Value → Shared → Prop} (ht : s.heap.IsTuple t items)
    (h : ∀ h', IsEnum h' (s.heap.objs.size + 1) s.heap.objs.size 0 .none → h'.IsTupleIter s.heap.objs.size t 0 → (∀ b o, s.heap.get? b = some o → h'.get? b = some o) → Q (.ref (s.heap.objs.size + 1)) { s with heap := h' }) :
    wpAny (model prog w) A (call (.type "enumerate") [.ref t]) Q E s := by
  refine callType_new F.called_enumerate (by decide) (F.typeCall_enumerate_1 _) (F.newCall_enumerate_1 _) (fun obj => F.args_object_init_2 obj _) F.entry_enumerate_new (meets_enumT (begins_tuple t items)) ⟨ht, ?_⟩
  have hz : (s.heap.push { cls := .type "tuple_iterator", data := .fields #[.ref t, .int 0 0] }).objs.size = s.heap.objs.size + 1 := Heap.size_push ..
  show _ ∧ _
  rw [hz]
  have he : IsEnum ((s.heap.push { cls := .type "tuple_iterator", data := .fields #[.ref t, .int 0 0] }).push { cls := .type "enumerate", data := .fields #[.none, .bool false, .ref s.heap.objs.size, rawInt 0, .none, .none] }) (s.heap.objs.size + 1) s.heap.objs.size 0 .none := by
    have := Heap.get?_push_size (s.heap.push { cls := .type "tuple_iterator", data := .fields #[.ref t, .int 0 0] }) (o := { cls := .type "enumerate", data := .fields #[.none, .bool false, .ref s.heap.objs.size, rawInt 0, .none, .none] }) rfl
    rwa [hz] at this
  exact ⟨⟨_, he, rfl⟩, h _ he ⟨_, Heap.get?_push_of_some _ (Heap.get?_push_size _ rfl), rfl, rfl⟩ fun b o x => Heap.get?_push_of_some _ (Heap.get?_push_of_some _ x)⟩
def iEnumS (K : PySem.W.Frag) (te : TE) : TI := fun σ H R => te σ H fun v H1 => ∃ a xs, v = .ref a ∧ ((SqL K H1 a xs ∧ R (Ite K a) H1) ∨ (SqT K H1 a xs ∧ R (IteT K a) H1))
theorem pi_enumS {X : Cx} {z : Str} {te : TE} {p pz pos tpos : Pos} {elts : List Expr} {kk : Nat} (hg : Gl X "enumerate") (hm : X.mg "enumerate" = none) (ha : PE X (.Name z pz) te) :
    PI X (.Tuple elts kk tpos) (.Call (.Name "enumerate" p) [.Name z pz] [] pos) (iEnumS X.K te) := by
  refine ⟨fun pins s σ H R I h => ?_⟩
  refine Call_ (ld_blt I hg hm boot_enumerate (PyProof.Rows.callWith_type1 (thn ((pa_cons ha pa_nil).run pos pins s σ H (fun vs H1 => match vs with
    | [v] => ∃ a xs, v = .ref a ∧ ((SqL X.K H1 a xs ∧ R (Ite X.K a) H1) ∨ (SqT X.K H1 a xs ∧ R (IteT X.K a) H1))
    | _ => False) I h) fun us s1 ⟨vs, H1, I1, r1, q1⟩ => ?_) rfl rfl))
  obtain ⟨v, rfl⟩ : ∃ v, vs = [v] := by
    match vs, q1 with
    | [v], _ => exact ⟨v, rfl⟩
  obtain ⟨a, xs, ea, q1⟩ := q1
  subst ea
  obtain rfl := Vals.ref1 r1
  have new2 : ∀ b ∈ [s1.heap.objs.size + 1, s1.heap.objs.size], FpOk X pins H1 b := fun b hb => by
    have hle : s1.heap.objs.size ≤ b := by
      rcases (by simpa using hb : b = s1.heap.objs.size + 1 ∨ b = s1.heap.objs.size) with z | z <;> omega
    exact I1.fpOk hle (I1.hok.fresh hle)
  rcases q1 with ⟨hq, q⟩ | ⟨hq, q⟩
  · obtain ⟨its, rv, p', hz⟩ := I1.list hq
    exact call_enumerate_list p'.isList fun h' he hit hsz hk => wpAny_pyIter_enum he ⟨s1.heap.objs.size + 1, [s1.heap.objs.size + 1, s1.heap.objs.size], _, _, H1, rfl, I1.kept (t' := s1.toks) hk, turn_enum a (s1.heap.objs.size + 1) s1.heap.objs.size, ⟨⟨.none, he⟩, hit, Nat.succ_ne_self _⟩, new2, q⟩
  · obtain ⟨its, rv, p', hz⟩ := I1.tuple hq
    have hlt : a < s1.heap.objs.size := let ⟨_, e, _⟩ := p'; Heap.lt_size e
    exact call_enumT (show s1.heap.IsTuple a its.toArray from p') fun h' he hit hk => wpAny_pyIter_enum he ⟨s1.heap.objs.size + 1, [s1.heap.objs.size + 1, s1.heap.objs.size], _, _, H1, rfl, I1.kept (t' := s1.toks) hk, turn_enumT a (s1.heap.objs.size + 1) s1.heap.objs.size (Nat.ne_of_gt (Nat.lt_succ_of_lt hlt)) (Nat.ne_of_lt hlt), ⟨⟨.none, he⟩, hit, Nat.succ_ne_self _⟩, new2, q⟩
section
variable {C : Cf} {Γ : Cxt} {te : TE} {c : Nat} {d : PyData} {ds : List PyData} {N : Hp}
theorem walk_enumT {K : PySem.W.Frag} {a : Addr} {xs : List V} : Walk (IteT K a) xs.length (fun H => SqT K H a xs) (YPair (fun i => some (.int (i : Nat))) (fun i => xs[i]?)) := by
  refine ⟨fun i _ hi q => ⟨xs, xs[i], q, by simp [hi]⟩, fun _ q => ⟨xs, q, rfl⟩, fun i H v H' _ q y => ?_⟩
  obtain ⟨T, x, h1, h2, h3, h4⟩ := y
  exact ⟨T, .int (i : Nat), x, h1, h2, h3, rfl, h4 xs q⟩
theorem walks_enumT {a : Addr} {xs : List V} (h : N a = some (.tup xs)) (r : DqAll C N xs ds) : Walks C N (ds.zipIdx.map fun p => .tuple [.int (p.2 : Nat), p.1]) (IteT C.K a) := fun M => by
  have hl : (ds.zipIdx.map fun p => PyData.tuple [.int (p.2 : Nat), p.1]).length = xs.length := by simp [dA_len r]
  rw [hl]
  refine walk_enumT.mono (fun H x => sqT_of (hide_some (x.1 a _ h fun ps z => by cases z)).2) fun i H x H' hi x1 y => ?_
  obtain ⟨T, x2, y2, e1, e2, e3, e4, e5⟩ := y
  cases e4
  obtain ⟨d, h1, h2⟩ := dA_get r e5
  subst e1 e3
  exact ⟨.inr ⟨T, _, e2, rfl⟩, _, by simp [List.getElem?_zipIdx, h1], pair_new x1.2 e2 (.int _) (h2.ext x1.1)⟩
theorem i_enumS (h : HasE C c te Γ (tyD C d)) (e1 : seqD d = some ds) : HasI C c (iEnumS C.K te) Γ (fun l => l = ds.zipIdx.map fun p => .tuple [.int (p.2 : Nat), p.1]) := fun M k σ H R ok st q =>
  h M k σ H _ ok st fun v H1 g1 o1 p => by
    obtain ⟨a, xs, e, hs, r⟩ := d_seq p e1
    refine ⟨a, xs, e, ?_⟩
    rcases hs with hs | hs
    · exact .inl ⟨sqL_of (hide_some hs).2, q _ _ _ g1 o1 rfl (walks_enum hs r)⟩
    · exact .inr ⟨sqT_of (hide_some hs).2, q _ _ _ g1 o1 rfl (walks_enumT hs r)⟩
end
end Q6
end
section
set_option maxHeartbeats 2000000
/-! == of a def with itself. -/
namespace Q6
open PySem PySem.Spec PyProof.Rows L2
theorem fn_eqS : Slot "function" "__eq__" "object.__eq__" := .of (owner := "object") (n := "__eq__") (by rw [typeLookup_type, builtinLookup_eq_fast]; kernel_rfl) (by decide +kernel) (by decide +kernel) (by decide +kernel) (by first | exact .inl (by decide +kernel) | exact .inr (by decide +kernel)) (by rw [isSubtype_type]; kernel_rfl)
theorem fn_eqE : entryFor table "object.__eq__" = some Builtin.«object.__eq__» := PySem.F.cmpEntry_eq
section
variable {prog : Program} {w : World} {A : Around} {E : Value → Shared → Prop} {s : Shared} {a : Addr}
theorem fn_eqB {Q : Fin → Shared → Prop} {M : Model} (hq : Q (.done (.ret (.bool true))) s) : wpAny M A (Builtin.«object.__eq__» ⟨[.ref a, .ref a], []⟩) Q E s := by
  unfold Builtin.«object.__eq__»
  repeat (first | with_reducible refine wpAny_isSame_ref_self ?_ | wp_step)
  exact hq
theorem fn_eqC {Q : Value → Shared → Prop} (hT : s.TypeIs (.ref a) "function") (hq : Q (.bool true) s) : wpAny (model prog w) A (call (.builtin "object.__eq__") [.ref a, .ref a]) Q E s :=
  wpAny_call (codeAny_call_builtin fn_eqS.plain fn_eqE (fn_eqS.check _ _ _ _ _ _ _ _ hT (PySem.F.cmpArgs_eq _ _) (fn_eqB hq)))
theorem fn_rc {Q : Value → Shared → Prop} (hu : A.units < cLine) (hT : s.TypeIs (.ref a) "function") (hq : Q (.bool true) s) : wpAny (model prog w) A (compareOp .Eq (.ref a) (.ref a)) Q E s := by
  show wpAny _ _ (richCompare .Eq (.ref a) (.ref a)) Q E s
  simp only [richCompare, cmpInfo_Eq, oneThing_ref]
  refine wpAny_holding (wpAny_bind (wpAny_cRoomFor hu ?_))
  refine wpAny_bind (wpAny_typeOf hT ?_)
  refine wpAny_bind (wpAny_typeOf hT ?_)
  split
  · rename_i q
    exact absurd q (by simp)
  · refine wpAny_bind (wpAny_pure ?_)
    simp only [Bool.false_eq_true, if_false]
    exact wpAny_bind (wpAny_tryCompare_slot hT fn_eqS (fn_eqC hT ⟨(fun z => by cases z), wpAny_pure hq⟩))
end
/-- as rEqD, or one def -/
def rEqF (K : PySem.W.Frag) : R2 := fun x y H Q => rEqD K x y H Q ∨ ∃ a o, x = .ref a ∧ y = .ref a ∧ K.lookup a = some o ∧ o.cls = .type "function" ∧ Q (.bl true) H
theorem op_eqF {X : Cx} (hu : X.A.units + 64 < cLine) : OpR X (compareOp .Eq) (rEqF X.K) := by
  intro pins s σ H x y v u Q I rx ry h
  rcases h with h | ⟨a, o, rfl, rfl, h1, h2, q⟩
  · exact op_eqD hu pins s σ H x y v u Q I rx ry h
  · cases (show v = Value.ref a from rx)
    cases (show u = Value.ref a from ry)
    exact fn_rc (by omega) ⟨o, I.kIn a o h1, h2⟩ ⟨.bl true, H, I, rfl, q⟩
end Q6
end
section
set_option maxHeartbeats 4000000
namespace Q6
open PySem PySem.Spec PyProof.Rows L2 LamX RZ Qk
theorem has_conv {C : Cf} {c : Nat} {te : TE} {Γ : Cxt} {d e : PyData} (h : HasE C c te Γ (tyD C d)) (q : d = e) : HasE C c te Γ (tyD C e) := by rw [← q]; exact h
/-! ### what the readers answer -/
mutual
/-- the stream is not within -/
def clean : PyData → Bool
  | .list ds => cleanAll ds
  | .tuple ds => cleanAll ds
  | .dict [(.bool true, .none)] => false
  | .dict [(.str _, .none)] => false
  | _ => true
def cleanAll : List PyData → Bool
  | [] => true
  | d :: ds => clean d && cleanAll ds
end
theorem clean_strm {d : PyData} (h : clean d = true) : isStrm d = false := by
  unfold isStrm
  split
  · simp [clean] at h
  · simp [clean] at h
  · rfl
theorem cleanAll_mem : ∀ {ds : List PyData}, cleanAll ds = true → ∀ d ∈ ds, clean d = true
  | d :: ds, h, e, he => by
    simp only [cleanAll, Bool.and_eq_true] at h
    rcases List.mem_cons.mp he with z | z
    · rw [z]; exact h.1
    · exact cleanAll_mem h.2 e z
theorem clean_seq {d : PyData} {ds : List PyData} (h : clean d = true) (e : seqD d = some ds) : cleanAll ds = true := by
  cases d <;> simp [seqD] at e <;> subst e <;> simpa [clean] using h
def isListD (d : PyData) : Bool := (seqD d).isSome
theorem isListD_eq (d : PyData) : (instB (kd d) "list" || instB (kd d) "tuple") = isListD d := by
  match d with
  | .none => rfl
  | .bool _ => rfl
  | .int _ => rfl
  | .str _ => rfl
  | .list _ => rfl
  | .tuple _ => rfl
  | .dict [] => rfl
  | .dict (_ :: _) => rfl
def isIntD : PyData → Bool
  | .int _ => true
  | _ => false
theorem isIntD_eq (d : PyData) : (instB (kd d) "int" && !instB (kd d) "bool") = isIntD d := by
  match d with
  | .none => rfl
  | .bool _ => rfl
  | .int _ => rfl
  | .str _ => rfl
  | .list _ => rfl
  | .tuple _ => rfl
  | .dict [] => rfl
  | .dict (_ :: _) => rfl
def isPosD : PyData → Bool
  | .int n => decide (n ≥ 1)
  | _ => false
def isFracD (d : PyData) : Bool := match seqD d with
  | some [a, b] => isIntD a && isPosD b
  | _ => false
/-! ### fractions -/
/-- a fraction as it is told -/
def encF (q : Rat) : PyData := .tuple [.int q.num, .int q.den]
theorem encF_eq {p q : Rat} (h : p = q) : encF p = encF q := by rw [h]
section
variable {P : Program} {w : World} {K : PySem.W.Frag} {mg : Str → Option Value} {base : Heap} {TT : List (Addr × Str)}
def F_is_list (ds : List PyData) (d : PyData) : Prop := ∃ x, ds = [x] ∧ isStrm x = false ∧ d = .bool (isListD x)
abbrev N_is_list : List Str := ["thing"]
abbrev P_is_list : List Str := ["thing"]
theorem sc_is_list : FnScope N_is_list P_is_list (defScope (top 5)) := ⟨rfl, rfl, rfl, by decide +kernel, rfl, by decide +kernel, by decide +kernel⟩
theorem ok_is_list (T : Txt mg) (O : OddOk K) (F : At K mg "is_list" 5) : Def P w K mg base CX0 1 "is_list" P_is_list (spD TT K F_is_list 1) := by
  have nd := sc_is_list.nd
  refine def_of0 F sc_is_list (fun _ _ _ _ _ _ us hl => match us, hl with | [_], _ => rfl) (fun vs H Q E h => len_R h) (fun cdv A outer s H vs Q E hr h => ⟨_, (pss_one (ps_ret (pe_callB call_isFT (by rfl) T.fr_isinstance bb_isinstance (pa_cons (pv 0) (pa_cons (pe_tup (pa_cons (pe_bltn (v := .ty "list") rfl (T.fr_list) bb_list rfl) (pa_cons (pe_bltn (v := .ty "tuple") rfl (T.fr_tuple) bb_tuple rfl) pa_nil))) pa_nil))))), read_D ?_ h⟩)
  rintro S ds d ⟨x, rfl, hx, rfl⟩ _
  refine hasS_ret (has_conv (has_isiT2 O (has_var rfl) ?_) (by rw [isListD_eq]))
  exact hx
def F_is_whole (ds : List PyData) (d : PyData) : Prop := ∃ x, ds = [x] ∧ isStrm x = false ∧ d = .bool (isIntD x)
abbrev N_is_whole : List Str := ["thing"]
abbrev P_is_whole : List Str := ["thing"]
theorem sc_is_whole : FnScope N_is_whole P_is_whole (defScope (top 6)) := ⟨rfl, rfl, rfl, by decide +kernel, rfl, by decide +kernel, by decide +kernel⟩
theorem ok_is_whole (T : Txt mg) (O : OddOk K) (F : At K mg "is_whole" 6) : Def P w K mg base CX0 1 "is_whole" P_is_whole (spD TT K F_is_whole 1) := by
  have nd := sc_is_whole.nd
  refine def_of0 F sc_is_whole (fun _ _ _ _ _ _ us hl => match us, hl with | [_], _ => rfl) (fun vs H Q E h => len_R h) (fun cdv A outer s H vs Q E hr h => ⟨_, (pss_one (ps_ret (pe_and (pe_callB call_isF (by rfl) T.fr_isinstance bb_isinstance (pa_cons (pv 0) (pa_cons (pe_bltn (v := .ty "int") rfl (T.fr_int) bb_int rfl) pa_nil))) (pe_one (pe_not (pe_callB call_isF (by rfl) T.fr_isinstance bb_isinstance (pa_cons (pv 0) (pa_cons (pe_bltn (v := .ty "bool") rfl (T.fr_bool) bb_bool rfl) pa_nil)))))))), read_D ?_ h⟩)
  rintro S ds d ⟨x, rfl, hx, rfl⟩ _
  refine hasS_0 (hasS_ret (has_conv (has_andV (has_isi O (has_var rfl) ?_) fun hq => (has_notV (has_isi O (has_var rfl) ?_))) (by rw [isIntD_eq]))) rfl <;> exact hx
def F_is_positive (ds : List PyData) (d : PyData) : Prop := ∃ x, ds = [x] ∧ isStrm x = false ∧ d = .bool (isPosD x)
abbrev N_is_positive : List Str := ["thing"]
abbrev P_is_positive : List Str := ["thing"]
theorem sc_is_positive : FnScope N_is_positive P_is_positive (defScope (top 7)) := ⟨rfl, rfl, rfl, by decide +kernel, rfl, by decide +kernel, by decide +kernel⟩
theorem ok_is_positive (D_is_whole : Def P w K mg base CX0 1 "is_whole" P_is_whole (spD TT K F_is_whole 1)) (F : At K mg "is_positive" 7) : Def P w K mg base CX0 2 "is_positive" P_is_positive (spD TT K F_is_positive 1) := by
  have nd := sc_is_positive.nd
  refine def_of0 F sc_is_positive (fun _ _ _ _ _ _ us hl => match us, hl with | [_], _ => rfl) (fun vs H Q E h => len_R h) (fun cdv A outer s H vs Q E hr h => ⟨_, (pss_one (ps_ret (pe_and (pe_callD D_is_whole hr (by decide) rfl pass0 (pa_cons (pv 0) pa_nil)) (pe_one (pe_cmpR op_ge (pv 0) pe_int (nomark _)))))), read_D ?_ h⟩)
  rintro S ds d ⟨x, rfl, hx, rfl⟩ _
  have call : F_is_whole [x] (.bool (isIntD x)) := ⟨x, rfl, hx, rfl⟩
  cases x with
  | int n => exact hasS_0 (hasS_ret (has_andV (has_call (has_cons (has_var rfl) has_nil) rfl call) fun _ => has_b2 (has_var rfl) has_int)) rfl
  | _ => exact hasS_0 (hasS_ret (has_andV (b' := false) (c2 := 0) (has_call (has_cons (has_var rfl) has_nil) rfl call) fun h => Bool.noConfusion h)) rfl
def F_lowest (ds : List PyData) (d : PyData) : Prop := ∃ n m : Int, ds = [.int n, .int m] ∧ 0 < m ∧ m.natAbs < 2 ^ 9000 ∧ d = encF ((n : Rat) / (m : Rat))
abbrev N_lowest : List Str := ["top", "bottom", "common"]
abbrev P_lowest : List Str := ["top", "bottom"]
theorem sc_lowest : FnScope N_lowest P_lowest (defScope (top 8)) := ⟨rfl, rfl, rfl, by decide +kernel, rfl, by decide +kernel, by decide +kernel⟩
theorem ok_lowest (T : Txt mg) (F : At K mg "lowest" 8) : Def P w K mg base CX0 1 "lowest" P_lowest (spD TT K F_lowest 2) := by
  have nd := sc_lowest.nd
  refine def_of0 F sc_lowest (fun _ _ _ _ _ _ us hl => match us, hl with | [_, _], _ => rfl) (fun vs H Q E h => len_R h) (fun cdv A outer s H vs Q E hr h => ⟨_, (pss_cons (ps_set (i := 2) nd rfl (Or.inl rfl) (pe_callBfun cr_gcd rfl T.gcd (pa_cons (pv 0) (pa_cons (pv 1) pa_nil))))
    (pss_one (ps_ret (pe_tup (pa_cons (pe_op op_fdivW (pv 0) (pv 2)) (pa_cons (pe_op op_fdivW (pv 1) (pv 2)) pa_nil)))))), read_D ?_ h⟩)
  rintro S ds d ⟨n, m, rfl, hm, hz, rfl⟩ _
  have g0 : 0 < ((Nat.gcd n.natAbs m.natAbs : Nat) : Int) := by
    have : 0 < Nat.gcd n.natAbs m.natAbs := Nat.gcd_pos_of_pos_right _ (by omega)
    omega
  have gz : CDivW 0 ((Nat.gcd n.natAbs m.natAbs : Nat) : Int) := wide_div g0 (b := 9000) (Nat.lt_of_le_of_lt (by
    have := Nat.le_of_dvd (by omega) (Nat.gcd_dvd_right n.natAbs m.natAbs)
    omega) hz) (by decide) (by decide)
  obtain ⟨e1, e2⟩ := low_num (n := n) hm
  unfold encF
  rw [e1, e2]
  refine hasS_0 (hasS_seq_set (has_gcd (has_var rfl) (has_var rfl))
    (hasS_ret (has_tup (has_cons (has_ic ?_ (has_var rfl) (has_var rfl)) (has_cons (has_ic ?_ (has_var rfl) (has_var rfl)) has_nil)) (by simp)))) rfl
  · exact gz
  · exact gz
end
end Q6
end
section
set_option maxHeartbeats 4000000
set_option exponentiation.threshold 20000
namespace Q6
open PySem PySem.Spec PyProof.Rows L2 LamX RZ Qk
theorem Room.eq {k : Nat} {A : Around} (r : Room k A) : A.units + 64 < cLine := by have := r.un; omega
/-- two bounds that fit -/
def Fit (p q : Rat) : Prop := ∃ a b : Nat, Sz a p ∧ Sz b q ∧ a + b ≤ 8000
theorem fit {a b : Nat} {p q : Rat} (h1 : Sz a p) (h2 : Sz b q) (h : a + b ≤ 8000) : Fit p q := ⟨a, b, h1, h2, h⟩
theorem _root_.Qk.Sz.dn {a : Nat} {p : Rat} (h : Sz a p) : ((p.den : Int)).natAbs < 2 ^ a := by rw [Int.natAbs_natCast]; exact h.2
theorem Fit.nd {p q : Rat} (h : Fit p q) : CMulW p.num (q.den : Int) := by
  obtain ⟨a, b, h1, h2, h3⟩ := h
  exact wide_mul h1.1 h2.dn h1.pos h2.pos (by omega)
theorem Fit.dn {p q : Rat} (h : Fit p q) : CMulW (p.den : Int) q.num := by
  obtain ⟨a, b, h1, h2, h3⟩ := h
  exact wide_mul h1.dn h2.1 h1.pos h2.pos (by omega)
theorem Fit.nn {p q : Rat} (h : Fit p q) : CMulW p.num q.num := by
  obtain ⟨a, b, h1, h2, h3⟩ := h
  exact wide_mul h1.1 h2.1 h1.pos h2.pos (by omega)
theorem Fit.dd {p q : Rat} (h : Fit p q) : CMulW (p.den : Int) (q.den : Int) := by
  obtain ⟨a, b, h1, h2, h3⟩ := h
  exact wide_mul h1.dn h2.dn h1.pos h2.pos (by omega)
theorem Fit.swap {p q : Rat} (h : Fit p q) : Fit q p := by
  obtain ⟨a, b, h1, h2, h3⟩ := h
  exact ⟨b, a, h2, h1, by omega⟩
theorem Fit.ddlt {p q : Rat} (h : Fit p q) : ((p.den : Int) * (q.den : Int)).natAbs < 2 ^ 9000 := by
  obtain ⟨a, b, h1, h2, h3⟩ := h
  exact Nat.lt_of_lt_of_le (wide_lt h1.dn h2.dn) (Nat.pow_le_pow_right (by decide) (by omega))
theorem Fit.dnlt {p q : Rat} (h : Fit p q) : ((p.den : Int) * q.num).natAbs < 2 ^ 9000 := by
  obtain ⟨a, b, h1, h2, h3⟩ := h
  exact Nat.lt_of_lt_of_le (wide_lt h1.dn h2.1) (Nat.pow_le_pow_right (by decide) (by omega))
theorem dd_pos (p q : Rat) : 0 < (p.den : Int) * (q.den : Int) := Int.mul_pos (den_pos p) (den_pos q)
section
variable {P : Program} {w : World} {K : PySem.W.Frag} {mg : Str → Option Value} {base : Heap} {TT : List (Addr × Str)}
def F_is_fraction (ds : List PyData) (d : PyData) : Prop := ∃ x, ds = [x] ∧ clean x = true ∧ d = .bool (isFracD x)
abbrev N_is_fraction : List Str := ["thing"]
abbrev P_is_fraction : List Str := ["thing"]
theorem sc_is_fraction : FnScope N_is_fraction P_is_fraction (defScope (top 9)) := ⟨rfl, rfl, rfl, by decide +kernel, rfl, by decide +kernel, by decide +kernel⟩
theorem ok_is_fraction (T : Txt mg) (O : OddOk K) (D_is_list : Def P w K mg base CX0 1 "is_list" P_is_list (spD TT K F_is_list 1)) (D_is_whole : Def P w K mg base CX0 1 "is_whole" P_is_whole (spD TT K F_is_whole 1)) (D_is_positive : Def P w K mg base CX0 2 "is_positive" P_is_positive (spD TT K F_is_positive 1)) (F : At K mg "is_fraction" 9) : Def P w K mg base CX0 3 "is_fraction" P_is_fraction (spD TT K F_is_fraction 1) := by
  have nd := sc_is_fraction.nd
  have hu65 : ∀ {k A}, Room k A → A.units + 65 < cLine := fun r => by have := r.un; omega
  refine def_of0 F sc_is_fraction (fun _ _ _ _ _ _ us hl => match us, hl with | [_], _ => rfl) (fun vs H Q E h => len_R h) (fun cdv A outer s H vs Q E hr h => ⟨_, (pss_one (ps_ret (pe_and (pe_callD D_is_list hr (by decide) rfl pass0 (pa_cons (pv 0) pa_nil)) (pe_and (pe_cmpR (op_eqD (Room.eq hr)) (pe_callB call_len_seq (by rfl) T.fr_len bb_len (pa_cons (pv 0) pa_nil)) pe_int (nomark _)) (pe_and (pe_callD D_is_whole hr (by decide) rfl pass0 (pa_cons (pe_ix ix_seq (pv 0) pe_int (fun _ _ => rfl)) pa_nil)) (pe_one (pe_callD D_is_positive hr (by decide) rfl pass0 (pa_cons (pe_ix ix_seq (pv 0) pe_int (fun _ _ => rfl)) pa_nil)))))))), read_D ?_ h⟩)
  rintro S ds d ⟨x, rfl, hx, rfl⟩ _
  have c1 : F_is_list [x] (.bool (isListD x)) := ⟨x, rfl, clean_strm hx, rfl⟩
  cases e : seqD x with
  | none =>
    refine hasS_0 (hasS_ret (has_conv (has_andV (b' := false) (c2 := 0) (has_call (has_cons (has_var rfl) has_nil) rfl c1) fun h => ?_) (by simp [isFracD, isListD, e]))) rfl
    rw [isListD, e] at h; cases h
  | some es =>
    have ec := clean_seq hx e
    by_cases h2 : es.length = 2
    · obtain ⟨a, b, rfl⟩ : ∃ a b, es = [a, b] := by
        match es, h2 with
        | [a, b], _ => exact ⟨a, b, rfl⟩
      have c2 : F_is_whole [a] (.bool (isIntD a)) := ⟨a, rfl, clean_strm (cleanAll_mem ec a (by simp)), rfl⟩
      have c3 : F_is_positive [b] (.bool (isPosD b)) := ⟨b, rfl, clean_strm (cleanAll_mem ec b (by simp)), rfl⟩
      exact hasS_0 (hasS_ret (has_conv (has_andV (has_call (has_cons (has_var rfl) has_nil) rfl c1) fun _ => has_andV (has_eqI (has_len (has_var rfl) e) has_int) fun _ => has_andV (has_call (has_cons (has_ix (has_var rfl) has_int e rfl) has_nil) rfl c2) fun _ => has_call (has_cons (has_ix (has_var rfl) has_int e rfl) has_nil) rfl c3) (by simp [isFracD, isListD, e]))) rfl
    · refine hasS_0 (hasS_ret (has_conv (has_andV (has_call (has_cons (has_var rfl) has_nil) rfl c1) fun _ => has_andV (b' := false) (c2 := 0) (has_eqI (has_len (has_var rfl) e) has_int) fun h => ?_) ?_)) rfl
      · exact absurd (by have := eq_of_beq h; omega) h2
      · have : isFracD x = false := by
          unfold isFracD
          rw [e]
          match es, h2 with
          | [], _ => rfl
          | [_], _ => rfl
          | [_, _], h => exact absurd rfl h
          | _ :: _ :: _ :: _, _ => rfl
        rw [this]; simp
def F_told (ds : List PyData) (d : PyData) : Prop := ∃ x n m, ds = [x] ∧ seqD x = some [.int n, .int m] ∧ 0 < m ∧ m.natAbs < 2 ^ 9000 ∧ d = encF ((n : Rat) / (m : Rat))
abbrev N_told : List Str := ["thing"]
abbrev P_told : List Str := ["thing"]
theorem sc_told : FnScope N_told P_told (defScope (top 10)) := ⟨rfl, rfl, rfl, by decide +kernel, rfl, by decide +kernel, by decide +kernel⟩
theorem ok_told (T : Txt mg) (O : OddOk K) (D_lowest : Def P w K mg base CX0 1 "lowest" P_lowest (spD TT K F_lowest 2)) (F : At K mg "told" 10) : Def P w K mg base CX0 2 "told" P_told (spD TT K F_told 1) := by
  have nd := sc_told.nd
  have hu65 : ∀ {k A}, Room k A → A.units + 65 < cLine := fun r => by have := r.un; omega
  refine def_of0 F sc_told (fun _ _ _ _ _ _ us hl => match us, hl with | [_], _ => rfl) (fun vs H Q E h => len_R h) (fun cdv A outer s H vs Q E hr h => ⟨_, (pss_one (ps_ret (pe_callD D_lowest hr (by decide) rfl pass0 (pa_cons (pe_ix ix_seq (pv 0) pe_int (fun _ _ => rfl)) (pa_cons (pe_ix ix_seq (pv 0) pe_int (fun _ _ => rfl)) pa_nil))))), read_D ?_ h⟩)
  rintro S ds d ⟨x, n, m, rfl, e, h1, h2, rfl⟩ _
  exact hasS_0 (hasS_ret (has_call (has_cons (has_ix (has_var rfl) has_int e rfl) (has_cons (has_ix (has_var rfl) has_int e rfl) has_nil)) rfl ⟨n, m, rfl, h1, h2, rfl⟩)) rfl
def F_plus (ds : List PyData) (d : PyData) : Prop := ∃ p q, ds = [encF p, encF q] ∧ Fit p q ∧ d = encF (p + q)
abbrev N_plus : List Str := ["one", "other"]
abbrev P_plus : List Str := ["one", "other"]
theorem sc_plus : FnScope N_plus P_plus (defScope (top 12)) := ⟨rfl, rfl, rfl, by decide +kernel, rfl, by decide +kernel, by decide +kernel⟩
theorem ok_plus (T : Txt mg) (O : OddOk K) (D_lowest : Def P w K mg base CX0 1 "lowest" P_lowest (spD TT K F_lowest 2)) (F : At K mg "plus" 12) : Def P w K mg base CX0 2 "plus" P_plus (spD TT K F_plus 2) := by
  have nd := sc_plus.nd
  have hu65 : ∀ {k A}, Room k A → A.units + 65 < cLine := fun r => by have := r.un; omega
  refine def_of0 F sc_plus (fun _ _ _ _ _ _ us hl => match us, hl with | [_, _], _ => rfl) (fun vs H Q E h => len_R h) (fun cdv A outer s H vs Q E hr h => ⟨_, (pss_one (ps_ret (pe_callD D_lowest hr (by decide) rfl pass0 (pa_cons (pe_op op_add (pe_op op_mulW (pe_ix ix_seq (pv 0) pe_int (fun _ _ => rfl)) (pe_ix ix_seq (pv 1) pe_int (fun _ _ => rfl))) (pe_op op_mulW (pe_ix ix_seq (pv 1) pe_int (fun _ _ => rfl)) (pe_ix ix_seq (pv 0) pe_int (fun _ _ => rfl)))) (pa_cons (pe_op op_mulW (pe_ix ix_seq (pv 0) pe_int (fun _ _ => rfl)) (pe_ix ix_seq (pv 1) pe_int (fun _ _ => rfl))) pa_nil))))), read_D ?_ h⟩)
  rintro S ds d ⟨p, q, rfl, hf, rfl⟩ _
  refine hasS_0 (hasS_ret (has_call (has_cons (has_i2 (has_ic ?_ (has_ix (has_var rfl) has_int rfl rfl) (has_ix (has_var rfl) has_int rfl rfl)) (has_ic ?_ (has_ix (has_var rfl) has_int rfl rfl) (has_ix (has_var rfl) has_int rfl rfl))) (has_cons (has_ic ?_ (has_ix (has_var rfl) has_int rfl rfl) (has_ix (has_var rfl) has_int rfl rfl)) has_nil)) rfl ?_)) rfl
  · exact hf.nd
  · exact hf.swap.nd
  · exact hf.dd
  · exact ⟨_, _, rfl, dd_pos p q, hf.ddlt, by rw [add_frac]⟩
def F_less (ds : List PyData) (d : PyData) : Prop := ∃ p q, ds = [encF p, encF q] ∧ Fit p q ∧ d = encF (p - q)
abbrev N_less : List Str := ["one", "other"]
abbrev P_less : List Str := ["one", "other"]
theorem sc_less : FnScope N_less P_less (defScope (top 13)) := ⟨rfl, rfl, rfl, by decide +kernel, rfl, by decide +kernel, by decide +kernel⟩
theorem ok_less (T : Txt mg) (O : OddOk K) (D_lowest : Def P w K mg base CX0 1 "lowest" P_lowest (spD TT K F_lowest 2)) (F : At K mg "less" 13) : Def P w K mg base CX0 2 "less" P_less (spD TT K F_less 2) := by
  have nd := sc_less.nd
  have hu65 : ∀ {k A}, Room k A → A.units + 65 < cLine := fun r => by have := r.un; omega
  refine def_of0 F sc_less (fun _ _ _ _ _ _ us hl => match us, hl with | [_, _], _ => rfl) (fun vs H Q E h => len_R h) (fun cdv A outer s H vs Q E hr h => ⟨_, (pss_one (ps_ret (pe_callD D_lowest hr (by decide) rfl pass0 (pa_cons (pe_op op_sub (pe_op op_mulW (pe_ix ix_seq (pv 0) pe_int (fun _ _ => rfl)) (pe_ix ix_seq (pv 1) pe_int (fun _ _ => rfl))) (pe_op op_mulW (pe_ix ix_seq (pv 1) pe_int (fun _ _ => rfl)) (pe_ix ix_seq (pv 0) pe_int (fun _ _ => rfl)))) (pa_cons (pe_op op_mulW (pe_ix ix_seq (pv 0) pe_int (fun _ _ => rfl)) (pe_ix ix_seq (pv 1) pe_int (fun _ _ => rfl))) pa_nil))))), read_D ?_ h⟩)
  rintro S ds d ⟨p, q, rfl, hf, rfl⟩ _
  refine hasS_0 (hasS_ret (has_call (has_cons (has_i2 (has_ic ?_ (has_ix (has_var rfl) has_int rfl rfl) (has_ix (has_var rfl) has_int rfl rfl)) (has_ic ?_ (has_ix (has_var rfl) has_int rfl rfl) (has_ix (has_var rfl) has_int rfl rfl))) (has_cons (has_ic ?_ (has_ix (has_var rfl) has_int rfl rfl) (has_ix (has_var rfl) has_int rfl rfl)) has_nil)) rfl ?_)) rfl
  · exact hf.nd
  · exact hf.swap.nd
  · exact hf.dd
  · exact ⟨_, _, rfl, dd_pos p q, hf.ddlt, by rw [sub_frac]⟩
def F_times (ds : List PyData) (d : PyData) : Prop := ∃ p q, ds = [encF p, encF q] ∧ Fit p q ∧ d = encF (p * q)
abbrev N_times : List Str := ["one", "other"]
abbrev P_times : List Str := ["one", "other"]
theorem sc_times : FnScope N_times P_times (defScope (top 14)) := ⟨rfl, rfl, rfl, by decide +kernel, rfl, by decide +kernel, by decide +kernel⟩
theorem ok_times (T : Txt mg) (O : OddOk K) (D_lowest : Def P w K mg base CX0 1 "lowest" P_lowest (spD TT K F_lowest 2)) (F : At K mg "times" 14) : Def P w K mg base CX0 2 "times" P_times (spD TT K F_times 2) := by
  have nd := sc_times.nd
  have hu65 : ∀ {k A}, Room k A → A.units + 65 < cLine := fun r => by have := r.un; omega
  refine def_of0 F sc_times (fun _ _ _ _ _ _ us hl => match us, hl with | [_, _], _ => rfl) (fun vs H Q E h => len_R h) (fun cdv A outer s H vs Q E hr h => ⟨_, (pss_one (ps_ret (pe_callD D_lowest hr (by decide) rfl pass0 (pa_cons (pe_op op_mulW (pe_ix ix_seq (pv 0) pe_int (fun _ _ => rfl)) (pe_ix ix_seq (pv 1) pe_int (fun _ _ => rfl))) (pa_cons (pe_op op_mulW (pe_ix ix_seq (pv 0) pe_int (fun _ _ => rfl)) (pe_ix ix_seq (pv 1) pe_int (fun _ _ => rfl))) pa_nil))))), read_D ?_ h⟩)
  rintro S ds d ⟨p, q, rfl, hf, rfl⟩ _
  refine hasS_0 (hasS_ret (has_call (has_cons (has_ic ?_ (has_ix (has_var rfl) has_int rfl rfl) (has_ix (has_var rfl) has_int rfl rfl)) (has_cons (has_ic ?_ (has_ix (has_var rfl) has_int rfl rfl) (has_ix (has_var rfl) has_int rfl rfl)) has_nil)) rfl ?_)) rfl
  · exact hf.nn
  · exact hf.dd
  · exact ⟨_, _, rfl, dd_pos p q, hf.ddlt, by rw [mul_frac]⟩
def F_parted (ds : List PyData) (d : PyData) : Prop := ∃ p q, ds = [encF p, encF q] ∧ Fit p q ∧ q ≠ 0 ∧ d = encF (p / q)
abbrev N_parted : List Str := ["one", "other"]
abbrev P_parted : List Str := ["one", "other"]
theorem sc_parted : FnScope N_parted P_parted (defScope (top 15)) := ⟨rfl, rfl, rfl, by decide +kernel, rfl, by decide +kernel, by decide +kernel⟩
theorem ok_parted (T : Txt mg) (O : OddOk K) (D_lowest : Def P w K mg base CX0 1 "lowest" P_lowest (spD TT K F_lowest 2)) (F : At K mg "parted" 15) : Def P w K mg base CX0 2 "parted" P_parted (spD TT K F_parted 2) := by
  have nd := sc_parted.nd
  have hu65 : ∀ {k A}, Room k A → A.units + 65 < cLine := fun r => by have := r.un; omega
  refine def_of0 F sc_parted (fun _ _ _ _ _ _ us hl => match us, hl with | [_, _], _ => rfl) (fun vs H Q E h => len_R h) (fun cdv A outer s H vs Q E hr h => ⟨_, (pss_cons (ps_if (pt_cmpR op_lt (pe_ix ix_seq (pv 1) pe_int (fun _ _ => rfl)) pe_int (nomark _)) (pss_one (ps_ret (pe_callD D_lowest hr (by decide) rfl pass0 (pa_cons (pe_op op_sub pe_int (pe_op op_mulW (pe_ix ix_seq (pv 0) pe_int (fun _ _ => rfl)) (pe_ix ix_seq (pv 1) pe_int (fun _ _ => rfl)))) (pa_cons (pe_op op_sub pe_int (pe_op op_mulW (pe_ix ix_seq (pv 0) pe_int (fun _ _ => rfl)) (pe_ix ix_seq (pv 1) pe_int (fun _ _ => rfl)))) pa_nil))))) pss_nil)
    (pss_one (ps_ret (pe_callD D_lowest hr (by decide) rfl pass0 (pa_cons (pe_op op_mulW (pe_ix ix_seq (pv 0) pe_int (fun _ _ => rfl)) (pe_ix ix_seq (pv 1) pe_int (fun _ _ => rfl))) (pa_cons (pe_op op_mulW (pe_ix ix_seq (pv 0) pe_int (fun _ _ => rfl)) (pe_ix ix_seq (pv 1) pe_int (fun _ _ => rfl))) pa_nil)))))), read_D ?_ h⟩)
  rintro S ds d ⟨p, q, rfl, hf, hne, rfl⟩ _
  have nz := num_ne hne
  refine hasS_0 (hasS_ifret (hast_test (has_b2 (has_ix (has_var rfl) has_int rfl rfl) has_int)) (fun hq => (hasS_ret (has_call (has_cons (has_i2 has_int (has_ic ?_ (has_ix (has_var rfl) has_int rfl rfl) (has_ix (has_var rfl) has_int rfl rfl))) (has_cons (has_i2 has_int (has_ic ?_ (has_ix (has_var rfl) has_int rfl rfl) (has_ix (has_var rfl) has_int rfl rfl))) has_nil)) rfl ?_)))
    fun hq => (hasS_ret (has_call (has_cons (has_ic ?_ (has_ix (has_var rfl) has_int rfl rfl) (has_ix (has_var rfl) has_int rfl rfl)) (has_cons (has_ic ?_ (has_ix (has_var rfl) has_int rfl rfl) (has_ix (has_var rfl) has_int rfl rfl)) has_nil)) rfl ?_))) rfl
  · exact hf.nd
  · exact hf.dn
  · refine ⟨_, _, rfl, ?_, ?_, by rw [div_frac_neg p q hne]⟩
    · have : q.num < 0 := by simpa using hq
      have := Int.mul_neg_of_pos_of_neg (den_pos p) this
      omega
    · have := hf.dnlt
      omega
  · exact hf.nd
  · exact hf.dn
  · refine ⟨_, _, rfl, ?_, hf.dnlt, by rw [div_frac p q hne]⟩
    have : ¬ q.num < 0 := by simpa using hq
    exact Int.mul_pos (den_pos p) (by omega)
def F_is_below (ds : List PyData) (d : PyData) : Prop := ∃ x y n m n' m', ds = [x, y] ∧ seqD x = some [.int n, .int m] ∧ seqD y = some [.int n', .int m'] ∧ CMulW n m' ∧ CMulW n' m ∧ d = .bool (decide (n * m' < n' * m))
abbrev N_is_below : List Str := ["one", "other"]
abbrev P_is_below : List Str := ["one", "other"]
theorem sc_is_below : FnScope N_is_below P_is_below (defScope (top 16)) := ⟨rfl, rfl, rfl, by decide +kernel, rfl, by decide +kernel, by decide +kernel⟩
theorem ok_is_below (T : Txt mg) (O : OddOk K) (F : At K mg "is_below" 16) : Def P w K mg base CX0 1 "is_below" P_is_below (spD TT K F_is_below 2) := by
  have nd := sc_is_below.nd
  have hu65 : ∀ {k A}, Room k A → A.units + 65 < cLine := fun r => by have := r.un; omega
  refine def_of0 F sc_is_below (fun _ _ _ _ _ _ us hl => match us, hl with | [_, _], _ => rfl) (fun vs H Q E h => len_R h) (fun cdv A outer s H vs Q E hr h => ⟨_, (pss_one (ps_ret (pe_cmpR op_lt (pe_op op_mulW (pe_ix ix_seq (pv 0) pe_int (fun _ _ => rfl)) (pe_ix ix_seq (pv 1) pe_int (fun _ _ => rfl))) (pe_op op_mulW (pe_ix ix_seq (pv 1) pe_int (fun _ _ => rfl)) (pe_ix ix_seq (pv 0) pe_int (fun _ _ => rfl))) (nomark _)))), read_D ?_ h⟩)
  rintro S ds d ⟨x, y, n, m, n', m', rfl, e1, e2, h1, h2, rfl⟩ _
  exact hasS_0 (hasS_ret (has_b2 (has_ic h1 (has_ix (has_var rfl) has_int e1 rfl) (has_ix (has_var rfl) has_int e2 rfl)) (has_ic h2 (has_ix (has_var rfl) has_int e2 rfl) (has_ix (has_var rfl) has_int e1 rfl)))) rfl
end
theorem below_F {p q : Rat} (hf : Fit p q) : F_is_below [encF p, encF q] (.bool (decide (p < q))) :=
  ⟨_, _, _, _, _, _, rfl, rfl, rfl, hf.nd, hf.swap.nd, congrArg PyData.bool (decide_eq_decide.mpr (lt_frac p q).symm)⟩
end Q6
end
section
set_option maxHeartbeats 4000000
set_option exponentiation.threshold 20000
namespace Q6
open PySem PySem.Spec PyProof.Rows L2 LamX RZ Qk
/-! ### corners and curves as they are told -/
def encK (k : Cor) : PyData := .tuple [encF k.1, encF k.2]
def encC (c : List Cor) : PyData := .list (c.map encK)
def encU (u : Cur) : PyData := .tuple [encC u.1, encF u.2]
theorem eqv_encF (p q : Rat) : PyData.eqv (encF p) (encF q) = decide (p = q) := by
  have : (p.num == q.num && (((p.den : Int) == (q.den : Int)) && true)) = decide (p = q) := by
    rw [Bool.eq_iff_iff]
    simp only [Bool.and_true, Bool.and_eq_true, beq_iff_eq, decide_eq_true_eq]
    constructor
    · rintro ⟨h1, h2⟩
      exact Rat.ext h1 (by omega)
    · intro h; rw [h]; exact ⟨rfl, rfl⟩
  exact this
theorem eqOk_encF (p : Rat) : eqOk (encF p) = true := by simp [eqOk, noDict, noDictAll, encF, SeqAt.shaped, PyData.canLay0, PyData.canLayAll0, PyData.depth, PyData.depthAll]
theorem eqOk_non : eqOk .none = true := by simp [eqOk, noDict, SeqAt.shaped, PyData.canLay0, PyData.depth]
/-- the corners' moments and worths fit -/
def SzC (c : List Cor) : Prop := ∀ k ∈ c, Sz 1000 k.1 ∧ Sz 1000 k.2
def SzU (u : Cur) : Prop := SzC u.1 ∧ Sz 1000 u.2
theorem i_conv {C : Cf} {c : Nat} {wi : TI} {Γ : Cxt} {X Y : List PyData} (h : HasI C c wi Γ (fun l => l = X)) (e : X = Y) : HasI C c wi Γ (fun l => l = Y) := by rw [← e]; exact h
theorem cut_from {ds : List PyData} (n : Nat) : cutD ds (some n) none = ds.drop n := by
  unfold cutD
  have h1 : HT.sIx ds.length 0 (some (n : Int)) = min n ds.length := by
    unfold HT.sIx
    simp
    omega
  have h2 : HT.sIx ds.length ds.length none = ds.length := by unfold HT.sIx; rfl
  rw [h1, h2]
  rcases Nat.le_total n ds.length with h | h
  · rw [Nat.min_eq_left h, List.take_of_length_le (by simp)]
  · rw [Nat.min_eq_right h, List.drop_of_length_le (Nat.le_refl _), List.drop_of_length_le h]; simp
theorem cut_1 {ds : List PyData} : cutD ds (some 1) none = ds.drop 1 := cut_from 1
theorem zip_pairs {α β : Type} (f : α → PyData) (g : β → PyData) : ∀ (c : List α) (r : List β), ((c.map f).zip (r.map g)).map (fun p => PyData.tuple [p.1, p.2]) = (c.zip r).map (fun p => .tuple [f p.1, g p.2])
  | [], _ => rfl
  | _ :: _, [] => rfl
  | a :: c, b :: r => by
    have := zip_pairs f g c r
    simp only [List.map_cons, List.zip_cons_cons, this]
theorem sorted_pair {c : List Cor} (hs : Sorted c) : ∀ p ∈ c.zip (c.drop 1), p.1.1 < p.2.1 := by
  intro p hp
  induction c with
  | nil => simp at hp
  | cons a r ih =>
    cases r with
    | nil => simp at hp
    | cons b r =>
      simp only [List.drop_succ_cons, List.drop_zero, List.zip_cons_cons, List.mem_cons] at hp ih
      rcases hp with e | e
      · rw [e]; exact hs.1
      · exact ih hs.2 (by simpa using e)
section
variable {P : Program} {w : World} {K : PySem.W.Frag} {mg : Str → Option Value} {base : Heap} {TT : List (Addr × Str)}
def F_steepness (ds : List PyData) (d : PyData) : Prop := ∃ a b : Cor, ds = [encK a, encK b] ∧ (Sz 1000 a.1 ∧ Sz 1000 a.2) ∧ (Sz 1000 b.1 ∧ Sz 1000 b.2) ∧ a.1 < b.1 ∧ d = encF (steep a b)
abbrev N_steepness : List Str := ["one", "other"]
abbrev P_steepness : List Str := ["one", "other"]
theorem sc_steepness : FnScope N_steepness P_steepness (defScope (top 21)) := ⟨rfl, rfl, rfl, by decide +kernel, rfl, by decide +kernel, by decide +kernel⟩
theorem ok_steepness (T : Txt mg) (O : OddOk K) (D_parted : Def P w K mg base CX0 2 "parted" P_parted (spD TT K F_parted 2)) (D_less : Def P w K mg base CX0 2 "less" P_less (spD TT K F_less 2)) (F : At K mg "steepness" 21) : Def P w K mg base CX0 3 "steepness" P_steepness (spD TT K F_steepness 2) := by
  have nd := sc_steepness.nd
  have hu65 : ∀ {k A}, Room k A → A.units + 65 < cLine := fun r => by have := r.un; omega
  refine def_of0 F sc_steepness (fun _ _ _ _ _ _ us hl => match us, hl with | [_, _], _ => rfl) (fun vs H Q E h => len_R h) (fun cdv A outer s H vs Q E hr h => ⟨_, (pss_one (ps_ret (pe_callD D_parted hr (by decide) rfl pass0 (pa_cons (pe_callD D_less hr (by decide) rfl pass0 (pa_cons (pe_ix ix_seq (pv 1) pe_int (fun _ _ => rfl)) (pa_cons (pe_ix ix_seq (pv 0) pe_int (fun _ _ => rfl)) pa_nil))) (pa_cons (pe_callD D_less hr (by decide) rfl pass0 (pa_cons (pe_ix ix_seq (pv 1) pe_int (fun _ _ => rfl)) (pa_cons (pe_ix ix_seq (pv 0) pe_int (fun _ _ => rfl)) pa_nil))) pa_nil))))), read_D ?_ h⟩)
  rintro S ds d ⟨a, b, rfl, ha, hb, hlt, rfl⟩ _
  refine hasS_0 (hasS_ret (has_call (has_cons (has_call (has_cons (has_ix (has_var rfl) has_int rfl rfl) (has_cons (has_ix (has_var rfl) has_int rfl rfl) has_nil)) rfl ⟨_, _, rfl, fit hb.2 ha.2 (by decide), rfl⟩)
    (has_cons (has_call (has_cons (has_ix (has_var rfl) has_int rfl rfl) (has_cons (has_ix (has_var rfl) has_int rfl rfl) has_nil)) rfl ⟨_, _, rfl, fit hb.1 ha.1 (by decide), rfl⟩) has_nil)) rfl ⟨_, _, rfl, fit (hb.2.sub ha.2) (hb.1.sub ha.1) (by decide), ?_, rfl⟩)) rfl
  intro h; grind
def F_slopes_of (ds : List PyData) (d : PyData) : Prop := ∃ u : Cur, ds = [encU u] ∧ u.1 ≠ [] ∧ Sorted u.1 ∧ SzU u ∧ u.1.length ≤ 50000 ∧ d = .list ((slopes u.1 u.2).map encF)
abbrev N_slopes_of : List Str := ["curve", "corners", "slope", "one", "other"]
abbrev P_slopes_of : List Str := ["curve"]
theorem sc_slopes_of : FnScope N_slopes_of P_slopes_of (defScope (top 22)) := ⟨rfl, rfl, rfl, by decide +kernel, rfl, by decide +kernel, by decide +kernel⟩
theorem ok_slopes_of (T : Txt mg) (O : OddOk K) (D_steepness : Def P w K mg base CX0 3 "steepness" P_steepness (spD TT K F_steepness 2)) (F : At K mg "slopes_of" 22) : Def P w K mg base CX0 4 "slopes_of" P_slopes_of (spD TT K F_slopes_of 1) := by
  have nd := sc_slopes_of.nd
  have hu65 : ∀ {k A}, Room k A → A.units + 65 < cLine := fun r => by have := r.un; omega
  refine def_of0 F sc_slopes_of (fun _ _ _ _ _ _ us hl => match us, hl with | [_], _ => rfl) (fun vs H Q E h => len_R h) (fun cdv A outer s H vs Q E hr h => ⟨_, (pss_cons (ps_asg (pv 0) (pg_tup rfl (pgs_cons (pg_name (i := 1) nd rfl (Or.inl rfl)) (pgs_cons (pg_name (i := 2) nd rfl (Or.inl rfl)) pgs_nil))))
    (pss_one (ps_ret (pe_op op_cat (pe_lc (own := [("one", 3), ("other", 4)]) (g := (gTup K 2 (gCons (gName 3) (gCons (gName 4) gNil)))) (tt := tYes) (te := (tCall (spD TT K F_steepness 2) [] (fun _ _ _ => False) (tCons (tVar 3) (tCons (tVar 4) tNil)))) rfl nd (pi_zipA rfl T.fr_zip (pa_cons (pv 1) (pa_cons (pe_slice (sl_list.or sl_tup) (pv 1) (po_some pe_int) po_none) pa_nil))) (blkOk_by (N := N_slopes_of) (sc := defScope (top 22)) (own := [("one", 3), ("other", 4)]) (by decide +kernel)) (fun _ _ _ _ _ => (pg_tup rfl (pgs_cons (pg_name (i := 3) nd rfl (Or.inl rfl)) (pgs_cons (pg_name (i := 4) nd rfl (Or.inl rfl)) pgs_nil)))) (fun _ _ _ _ _ => pts_nil) (fun _ _ _ _ _ => (pe_callD D_steepness hr (by decide) rfl pass0 (pa_cons (pv 3) (pa_cons (pv 4) pa_nil))))) (pe_lst (pa_cons (pv 2) pa_nil)))))), read_D ?_ h⟩)
  rintro S ds d ⟨u, rfl, hn, hs, hz, hl, rfl⟩ _
  obtain ⟨c, s⟩ := u
  refine hasS_0 (hasS_seq_asg (has_var rfl) (g_tup (gs_cons g_name (gs_cons g_name gs_nil)) rfl) (hasS_ret (has_conv (has_cat (has_map (c.zip (c.drop 1)) (fun p => .tuple [encK p.1, encK p.2]) (fun p => encF (steep p.1 p.2))
    (i_conv (i_zip (has_var rfl) (has_sl (has_var rfl) (ho_some has_int) ho_none) rfl rfl rfl) (by rw [cut_1, ← List.map_drop, zip_pairs])) (by simp at hl ⊢; omega) fun p hp => ⟨_, _, g_tup (gs_cons g_name (gs_cons g_name gs_nil)) rfl, by simp, has_call (has_cons (has_var rfl) (has_cons (has_var rfl) has_nil)) rfl ⟨p.1, p.2, rfl, hz.1 _ (List.of_mem_zip hp).1, hz.1 _ (List.mem_of_mem_drop (List.of_mem_zip hp).2), sorted_pair hs p hp, rfl⟩⟩)
    (has_lst (has_cons (has_var rfl) has_nil) (by simp)) ?_) ?_))) (by simp)
  · simp at hl ⊢; omega
  · rw [← slopes_zip s c hn]; simp
/-- the slope so far, as the loop holds it -/
def ahD : Option Rat → PyData
  | none => .none
  | some q => encF q
theorem ah_test (o : Option Rat) (q : Rat) : (isNone (ahD o) || !PyData.eqv (encF q) (ahD o)) = !sm o q := by
  cases o with
  | none => rfl
  | some p =>
    show (false || !PyData.eqv (encF q) (encF p)) = !decide (p = q)
    rw [eqv_encF, Bool.false_or]
    congr 1
    exact decide_eq_decide.mpr ⟨fun h => h.symm, fun h => h.symm⟩
theorem eqOk_ahD (o : Option Rat) : eqOk (ahD o) = true := by
  cases o with
  | none => exact eqOk_non
  | some p => exact eqOk_encF p
theorem kp_len (p : Option Rat) (l : List (Cor × Rat)) : (kp p l).length ≤ l.length := by
  induction l generalizing p with
  | nil => simp [kp]
  | cons x r ih =>
    have := ih (some x.2)
    simp only [kp, List.length_append, List.length_cons]
    cases sm p x.2 <;> simp <;> omega
def F_normal (ds : List PyData) (R : Res) : Prop := ∃ (c : List Cor) (s : Rat), ds = [encC c, encF s] ∧ c ≠ [] ∧ Sorted c ∧ SzU (c, s) ∧ c.length ≤ 50000 ∧ R = rU ((normC c s).map encK) (encF s)
abbrev N_normal : List Str := ["corners", "slope", "slopes", "found", "ahead", "corner", "later"]
abbrev P_normal : List Str := ["corners", "slope"]
theorem sc_normal : FnScope N_normal P_normal (defScope (top 23)) := ⟨rfl, rfl, rfl, by decide +kernel, rfl, by decide +kernel, by decide +kernel⟩
theorem ok_normal (T : Txt mg) (O : OddOk K) (D_slopes_of : Def P w K mg base CX0 4 "slopes_of" P_slopes_of (spD TT K F_slopes_of 1)) (F : At K mg "normal" 23) : Def P w K mg base CX0 5 "normal" P_normal (spR TT K 0 F_normal 2) := by
  have nd := sc_normal.nd
  have hu65 : ∀ {k A}, Room k A → A.units + 65 < cLine := fun r => by have := r.un; omega
  refine def_of0 F sc_normal (fun _ _ _ _ _ _ us hl => match us, hl with | [_, _], _ => rfl) (fun vs H Q E h => len_R h) (fun cdv A outer s H vs Q E hr h => ⟨_, (pss_cons (ps_par3 (i := 2) (j := 3) (l := 4) (by rfl) nd rfl rfl rfl (by decide) (by decide) (by decide) rfl rfl rfl (pa_cons (pe_callD D_slopes_of hr (by decide) rfl pass0 (pa_cons (pe_tup (pa_cons (pv 0) (pa_cons (pv 1) pa_nil))) pa_nil)) (pa_cons (pe_lst pa_nil) (pa_cons pe_non pa_nil))) (by rfl))
    (pss_cons (ps_for PassesOwn.never rfl (pi_zipA rfl T.fr_zip (pa_cons (pv 0) (pa_cons (pv 2) pa_nil))) (pg_tup rfl (pgs_cons (pg_name (i := 5) nd rfl (Or.inl rfl)) (pgs_cons (pg_name (i := 6) nd rfl (Or.inl rfl)) pgs_nil))) (pss_cons (ps_if (PW.pt (pw_or (pt_cmp (pc_isN (pv 4)) rfl) (pw_or1 (pt_cmpR (op_neD (Room.eq hr)) (pv 6) (pv 4) (nomark _))))) (pss_one (ps_expr (pe_bm PySem.F.plainAttrs_list PySem.F.slot_list_append PySem.F.type_list_append mt_append (pv 3) (pa_cons (pv 5) pa_nil)))) pss_nil)
    (pss_one (ps_set (i := 4) nd rfl (Or.inl rfl) (pv 6)))))
    (pss_one (ps_ret (pe_tup (pa_cons (pv 3) (pa_cons (pv 1) pa_nil))))))), read_R ?_ h⟩)
  rintro S ds R ⟨c, s, rfl, hn, hs, hz, hl, rfl⟩ _
  refine hasS_0 (hasS_seq_par3b (c4 := 0) (has_call (has_cons (has_tup (has_cons (has_var rfl) (has_cons (has_var rfl) has_nil)) (by simp)) has_nil) rfl ⟨(c, s), rfl, hn, hs, hz, hl, rfl⟩) (f_lst has_nil (by simp)) has_non fun l es e => ?_) (by rfl)
  subst e
  refine hasS_le (c1 := 0 + (c.zip (slopes c s)).length * 0 + 0) (hasS_seq (Γ1 := [some (tyD _ (encC c)), some (tyD _ (encF s)), some (tyD _ (.list ((slopes c s).map encF))), some (tyV (.ref l)), some (tyD _ (ahD (ah none (c.zip (slopes c s))))), none, none]) (A1 := [(l, (kp none (c.zip (slopes c s))).map encK)])
    (hasS_for (c.zip (slopes c s)) (fun x => .tuple [encK x.1, encF x.2])
      (fun pre => [some (tyD _ (encC c)), some (tyD _ (encF s)), some (tyD _ (.list ((slopes c s).map encF))), some (tyV (.ref l)), some (tyD _ (ahD (ah none pre))), none, none]) (fun pre => [(l, (kp none pre).map encK)])
      (i_conv (i_zip (has_var rfl) (has_var rfl) rfl rfl rfl) (by rw [zip_pairs])) (.same (.same (.same (.same (.same (.drop (.drop .nil))))))) rfl (fun _ => rfl) (fun pre x suf ex => ⟨_, _, g_tup (gs_cons g_name (gs_cons g_name gs_nil)) rfl, ?_⟩) fun Γ' w => ⟨w, rfl⟩)
    (by rw [kp_norm]; exact hasS_retU rfl rfl)) (by simp)
  have hlen : (kp none pre).length < 100000 := by
    have h1 := kp_len none pre
    have h2 := congrArg List.length ex
    simp at h2 hl
    omega
  refine hasS_0 (c := 0 + (0 + 0) + (0 + 0) + 0) (hasS_seq (Γ1 := [some (tyD _ (encC c)), some (tyD _ (encF s)), some (tyD _ (.list ((slopes c s).map encF))), some (tyV (.ref l)), some (tyD _ (ahD (ah none pre))), some (tyD _ (encK x.1)), some (tyD _ (encF x.2))]) (A1 := [(l, (kp none (pre ++ [x])).map encK)])
    (hasS_if (hast_or (hast_B (has_isN (has_var rfl))) fun _ => hast_test (has_ne (has_var rfl) (has_var rfl) (eqOk_encF _) (eqOk_ahD _))) (fun hb => hasS_append rfl (has_var rfl) (by simpa using hlen) rfl ⟨.refl _, ?_⟩) fun hb => hasS_next ⟨.refl _, ?_⟩)
    (hasS_set (has_var rfl) ⟨by rw [ah_snoc]; exact .same (.same (.same (.same (.same (.drop (.drop .nil)))))), rfl⟩)) rfl
  · rw [ah_test] at hb
    have hb : sm (ah none pre) x.2 = false := by simpa using hb
    rw [kp_snoc, hb]; simp
  · rw [ah_test] at hb
    have hb : sm (ah none pre) x.2 = true := by simpa using hb
    rw [kp_snoc, hb]; simp
def F_place_at (ds : List PyData) (d : PyData) : Prop := ∃ (u : Cur) (t : Rat), ds = [encU u, encF t] ∧ Crv u.1 ∧ SzU u ∧ Sz 1000 t ∧ 0 ≤ t ∧ u.1.length ≤ 50000 ∧ d = .int (place u.1 t : Nat)
abbrev N_place_at : List Str := ["curve", "moment", "found", "at", "corner"]
abbrev P_place_at : List Str := ["curve", "moment"]
theorem sc_place_at : FnScope N_place_at P_place_at (defScope (top 25)) := ⟨rfl, rfl, rfl, by decide +kernel, rfl, by decide +kernel, by decide +kernel⟩
theorem ok_place_at (T : Txt mg) (O : OddOk K) (D_is_below : Def P w K mg base CX0 1 "is_below" P_is_below (spD TT K F_is_below 2)) (F : At K mg "place_at" 25) : Def P w K mg base CX0 2 "place_at" P_place_at (spD TT K F_place_at 2) := by
  have nd := sc_place_at.nd
  have hu65 : ∀ {k A}, Room k A → A.units + 65 < cLine := fun r => by have := r.un; omega
  refine def_of0 F sc_place_at (fun _ _ _ _ _ _ us hl => match us, hl with | [_, _], _ => rfl) (fun vs H Q E h => len_R h) (fun cdv A outer s H vs Q E hr h => ⟨_, (pss_cons (ps_set (i := 2) nd rfl (Or.inl rfl) pe_int)
    (pss_cons (ps_for PassesOwn.never rfl (pi_enum rfl T.fr_enumerate (pa_cons (pe_ix ix_seq (pv 0) pe_int (fun _ _ => rfl)) pa_nil)) (pg_tup rfl (pgs_cons (pg_name (i := 3) nd rfl (Or.inl rfl)) (pgs_cons (pg_name (i := 4) nd rfl (Or.inl rfl)) pgs_nil))) (pss_one (ps_if (pt_not (pt_val (pe_callD D_is_below hr (by decide) rfl pass0 (pa_cons (pv 1) (pa_cons (pe_ix ix_seq (pv 4) pe_int (fun _ _ => rfl)) pa_nil))))) (pss_one (ps_set (i := 2) nd rfl (Or.inl rfl) (pv 3))) pss_nil)))
    (pss_one (ps_ret (pv 2))))), read_D ?_ h⟩)
  rintro S ds d ⟨⟨c, s⟩, t, rfl, hc, hz, ht, h0, hl, rfl⟩ _
  have hfin : lastAt t 0 0 c = place c t := by
    cases c with
    | nil => rfl
    | cons a r => rw [lastAt_place 0 0 hc.sorted (by have := hc.zero; simp at this; grind), Nat.zero_add]
  refine hasS_le (c1 := 0 + (0 + c.zipIdx.length * 0 + 0)) (hasS_seq_set has_int (hasS_seq (Γ1 := [some (tyD _ (encU (c, s))), some (tyD _ (encF t)), some (tyD _ (.int (lastAt t 0 0 (c.zipIdx.map (·.1)) : Nat))), none, none]) (A1 := [])
    (hasS_for c.zipIdx (fun p => .tuple [.int (p.2 : Nat), encK p.1])
      (fun pre => [some (tyD _ (encU (c, s))), some (tyD _ (encF t)), some (tyD _ (.int (lastAt t 0 0 (pre.map (·.1)) : Nat))), none, none]) (fun _ => [])
      (i_conv (i_enum (has_ix (has_var rfl) has_int rfl rfl)) (by rw [List.zipIdx_map, List.map_map]; rfl)) (.same (.same (.same (.drop (.drop .nil))))) rfl (fun _ => rfl) (fun pre x suf ex => ⟨_, _, g_tup (gs_cons g_name (gs_cons g_name gs_nil)) rfl, ?_⟩) fun Γ' w => ⟨w, rfl⟩)
    (hasS_ret (has_conv (has_var rfl) (by rw [List.zipIdx_map_fst, hfin]))))) (by simp)
  have hx : x.1 ∈ c := by
    have : x ∈ c.zipIdx := by rw [ex]; simp
    exact List.fst_mem_of_mem_zipIdx this
  have hi : x.2 = pre.length := by
    have : c.zipIdx[pre.length]? = some x := by rw [ex]; simp
    rw [List.getElem?_zipIdx] at this
    cases q : c[pre.length]? with
    | none => rw [q] at this; cases this
    | some k => rw [q] at this; cases this; simp
  refine hasS_0 (c := 0 + (0 + 0)) (hasS_if (hast_not (hast_B (has_call (has_cons (has_var rfl) (has_cons (has_ix (has_var rfl) has_int rfl rfl) has_nil)) rfl (below_F (fit ht (hz.1 _ hx).1 (by decide)))))) (fun hb => hasS_set (has_var rfl) ⟨.same (.same (?_)), rfl⟩) fun hb => hasS_next ⟨.same (.same (?_)), rfl⟩) rfl
  · rw [List.map_append, List.map_singleton, lastAt_snoc, if_neg (by simpa using hb), Nat.zero_add, List.length_map, ← hi]
    exact .same (.drop (.drop .nil))
  · rw [List.map_append, List.map_singleton, lastAt_snoc, if_pos (by simpa using hb)]
    exact .same (.drop (.drop .nil))
end
end Q6
end
section
set_option maxHeartbeats 4000000
set_option exponentiation.threshold 20000
namespace Q6
open PySem PySem.Spec PyProof.Rows L2 LamX RZ Qk
/-! ### fractions, corners and curves as they may be handed in -/
def rawF (x : PyData) (q : Rat) : Prop := ∃ n m : Int, seqD x = some [.int n, .int m] ∧ 0 < m ∧ n.natAbs < 2 ^ 1000 ∧ m.natAbs < 2 ^ 1000 ∧ q = (n : Rat) / (m : Rat)
def rawK (x : PyData) (k : Cor) : Prop := ∃ a b, seqD x = some [a, b] ∧ rawF a k.1 ∧ rawF b k.2
def rawC (x : PyData) (c : List Cor) : Prop := ∃ es, seqD x = some es ∧ Paired rawK es c
def rawU (x : PyData) (u : Cur) : Prop := ∃ a b, seqD x = some [a, b] ∧ rawC a u.1 ∧ rawF b u.2
theorem clean_of {x : PyData} {es : List PyData} (e : seqD x = some es) (h : cleanAll es = true) : clean x = true := by
  cases x <;> simp [seqD] at e <;> subst e <;> simpa [clean] using h
theorem rawF.clean {x : PyData} {q : Rat} (h : rawF x q) : clean x = true := by
  obtain ⟨n, m, e, _⟩ := h
  exact clean_of e (by simp [cleanAll, Q6.clean])
theorem rawK.clean {x : PyData} {k : Cor} (h : rawK x k) : clean x = true := by
  obtain ⟨a, b, e, h1, h2⟩ := h
  exact clean_of e (by simp [cleanAll, h1.clean, h2.clean])
theorem rawKs_clean {es : List PyData} {c : List Cor} (h : Paired rawK es c) : cleanAll es = true := by
  induction h with
  | nil => rfl
  | cons h _ ih => simp [cleanAll, h.clean, ih]
theorem rawC.clean {x : PyData} {c : List Cor} (h : rawC x c) : clean x = true := by
  obtain ⟨es, e, h1⟩ := h
  exact clean_of e (rawKs_clean h1)
theorem rawU.clean {x : PyData} {u : Cur} (h : rawU x u) : clean x = true := by
  obtain ⟨a, b, e, h1, h2⟩ := h
  exact clean_of e (by simp [cleanAll, h1.clean, h2.clean])
theorem rawF.frac {x : PyData} {q : Rat} (h : rawF x q) : isFracD x = true := by
  obtain ⟨n, m, e, h1, _⟩ := h
  unfold isFracD
  rw [e]
  simp [isIntD, isPosD]; omega
def isCornerD (d : PyData) : Bool := match seqD d with
  | some [a, b] => isFracD a && isFracD b
  | _ => false
theorem rawK.corner {x : PyData} {k : Cor} (h : rawK x k) : isCornerD x = true := by
  obtain ⟨a, b, e, h1, h2⟩ := h
  unfold isCornerD
  rw [e]
  simp [h1.frac, h2.frac]
/-- what a curve must have for a start -/
def headOk (d : PyData) : Bool := match seqD d with
  | some [a, b] => isListD a && isFracD b
  | _ => false
theorem paired_zip {α β : Type} {R : α → β → Prop} {es : List α} {c : List β} (h : Paired R es c) : ∀ p ∈ es.zip (es.drop 1), ∃ q ∈ c.zip (c.drop 1), R p.1 q.1 ∧ R p.2 q.2 := by
  induction h with
  | nil => intro p hp; simp at hp
  | @cons a b as bs h hr ih =>
    intro p hp
    cases hr with
    | nil => simp at hp
    | @cons a' b' as' bs' h' hr' =>
      simp only [List.drop_succ_cons, List.drop_zero, List.zip_cons_cons, List.mem_cons] at hp ih ⊢
      rcases hp with e | e
      · exact ⟨(b, b'), .inl rfl, by rw [e]; exact ⟨h, h'⟩⟩
      · obtain ⟨q, hq, h1⟩ := ih p (by simpa using e)
        exact ⟨q, .inr (by simpa using hq), h1⟩
theorem paired_len {α β : Type} {R : α → β → Prop} {es : List α} {c : List β} (h : Paired R es c) : es.length = c.length := by
  induction h with
  | nil => rfl
  | cons _ _ ih => simp [ih]
theorem paired_mem {α β : Type} {R : α → β → Prop} {es : List α} {c : List β} (h : Paired R es c) : ∀ a ∈ es, ∃ b ∈ c, R a b := by
  induction h with
  | nil => intro a ha; cases ha
  | cons h _ ih =>
    intro a ha
    rcases List.mem_cons.mp ha with e | e
    · exact ⟨_, List.mem_cons_self .., by rw [e]; exact h⟩
    · obtain ⟨b, hb, r⟩ := ih a e
      exact ⟨b, List.mem_cons_of_mem _ hb, r⟩
theorem wide_1000 {i j : Int} (h1 : i.natAbs < 2 ^ 1000) (h2 : j.natAbs < 2 ^ 1000) : CMulW i j := wide_mul h1 h2 (by decide) (by decide) (by decide)
theorem rat_lt_int {n m n' m' : Int} (h1 : 0 < m) (h2 : 0 < m') : n * m' < n' * m ↔ (n : Rat) / (m : Rat) < (n' : Rat) / (m' : Rat) := by
  have a1 : (0 : Rat) < (m : Rat) := by exact_mod_cast h1
  have a2 : (0 : Rat) < (m' : Rat) := by exact_mod_cast h2
  rw [Rat.div_lt_iff a1]
  have e : (n' : Rat) / (m' : Rat) * (m : Rat) = ((n' * m : Int) : Rat) / (m' : Rat) := by push_cast; grind
  rw [e, Rat.lt_div_iff a2]
  constructor
  · intro h; exact_mod_cast h
  · intro h; exact_mod_cast h
theorem rawF.below {x y : PyData} {p q : Rat} (h1 : rawF x p) (h2 : rawF y q) : F_is_below [x, y] (.bool (decide (p < q))) := by
  obtain ⟨n, m, e1, p1, s1, t1, r1⟩ := h1
  obtain ⟨n', m', e2, p2, s2, t2, r2⟩ := h2
  exact ⟨x, y, n, m, n', m', rfl, e1, e2, wide_1000 s1 t2, wide_1000 s2 t1, congrArg PyData.bool (decide_eq_decide.mpr (by rw [r1, r2]; exact (rat_lt_int p1 p2).symm))⟩
theorem slopes_sz {c : List Cor} {s : Rat} (h : SzU (c, s)) : ∀ k ∈ slopes c s, Sz 4002 k := by
  obtain ⟨h1, h2⟩ := h
  induction c with
  | nil => intro k hk; simp [slopes] at hk; rw [hk]; exact h2.mono (by decide)
  | cons a r ih =>
    cases r with
    | nil => intro k hk; simp [slopes] at hk; rw [hk]; exact h2.mono (by decide)
    | cons b r =>
      intro k hk
      simp only [slopes, List.mem_cons] at hk
      rcases hk with e | e
      · rw [e]
        exact ((h1 b (by simp)).2.sub (h1 a (by simp)).2).div ((h1 b (by simp)).1.sub (h1 a (by simp)).1)
      · exact ih (fun k hk => h1 k (List.mem_cons_of_mem _ hk)) h2 k e
section
variable {P : Program} {w : World} {K : PySem.W.Frag} {mg : Str → Option Value} {base : Heap} {TT : List (Addr × Str)}
def F_slope_from (ds : List PyData) (d : PyData) : Prop := ∃ (u : Cur) (t : Rat), ds = [encU u, encF t] ∧ Crv u.1 ∧ SzU u ∧ Sz 1000 t ∧ 0 ≤ t ∧ u.1.length ≤ 50000 ∧ d = encF (slp u.1 u.2 t)
abbrev N_slope_from : List Str := ["curve", "moment"]
abbrev P_slope_from : List Str := ["curve", "moment"]
theorem sc_slope_from : FnScope N_slope_from P_slope_from (defScope (top 26)) := ⟨rfl, rfl, rfl, by decide +kernel, rfl, by decide +kernel, by decide +kernel⟩
theorem ok_slope_from (T : Txt mg) (O : OddOk K) (D_slopes_of : Def P w K mg base CX0 4 "slopes_of" P_slopes_of (spD TT K F_slopes_of 1)) (D_place_at : Def P w K mg base CX0 2 "place_at" P_place_at (spD TT K F_place_at 2)) (F : At K mg "slope_from" 26) : Def P w K mg base CX0 5 "slope_from" P_slope_from (spD TT K F_slope_from 2) := by
  have nd := sc_slope_from.nd
  have hu65 : ∀ {k A}, Room k A → A.units + 65 < cLine := fun r => by have := r.un; omega
  refine def_of0 F sc_slope_from (fun _ _ _ _ _ _ us hl => match us, hl with | [_, _], _ => rfl) (fun vs H Q E h => len_R h) (fun cdv A outer s H vs Q E hr h => ⟨_, (pss_one (ps_ret (pe_ix ix_seq (pe_callD D_slopes_of hr (by decide) rfl pass0 (pa_cons (pv 0) pa_nil)) (pe_callD D_place_at hr (by decide) rfl pass0 (pa_cons (pv 0) (pa_cons (pv 1) pa_nil))) (fun _ _ => rfl)))), read_D ?_ h⟩)
  rintro S ds d ⟨u, t, rfl, hc, hz, ht, h0, hl, rfl⟩ _
  have hn : u.1 ≠ [] := by obtain ⟨w, r, e⟩ := hc.zero; rw [e]; simp
  obtain ⟨a, k, h1, h2, h3, h4⟩ := place_val u.2 t u.1 hn
  exact hasS_0 (hasS_ret (has_ix (has_call (has_cons (has_var rfl) has_nil) rfl ⟨u, rfl, hn, hc.sorted, hz, hl, rfl⟩) (has_call (has_cons (has_var rfl) (has_cons (has_var rfl) has_nil)) rfl ⟨u, t, rfl, hc, hz, ht, h0, hl, rfl⟩) rfl (atI_nat (by rw [List.getElem?_map, h2, h4]; rfl)))) rfl
def F_worth_of (ds : List PyData) (d : PyData) : Prop := ∃ (u : Cur) (t : Rat), ds = [encU u, encF t] ∧ Crv u.1 ∧ SzU u ∧ Sz 1000 t ∧ 0 ≤ t ∧ u.1.length ≤ 50000 ∧ d = encF (val u.1 u.2 t)
abbrev N_worth_of : List Str := ["curve", "moment", "at", "begin", "worth"]
abbrev P_worth_of : List Str := ["curve", "moment"]
theorem sc_worth_of : FnScope N_worth_of P_worth_of (defScope (top 27)) := ⟨rfl, rfl, rfl, by decide +kernel, rfl, by decide +kernel, by decide +kernel⟩
theorem ok_worth_of (T : Txt mg) (O : OddOk K) (D_place_at : Def P w K mg base CX0 2 "place_at" P_place_at (spD TT K F_place_at 2)) (D_plus : Def P w K mg base CX0 2 "plus" P_plus (spD TT K F_plus 2)) (D_times : Def P w K mg base CX0 2 "times" P_times (spD TT K F_times 2)) (D_less : Def P w K mg base CX0 2 "less" P_less (spD TT K F_less 2)) (D_slopes_of : Def P w K mg base CX0 4 "slopes_of" P_slopes_of (spD TT K F_slopes_of 1)) (F : At K mg "worth_of" 27) : Def P w K mg base CX0 5 "worth_of" P_worth_of (spD TT K F_worth_of 2) := by
  have nd := sc_worth_of.nd
  have hu65 : ∀ {k A}, Room k A → A.units + 65 < cLine := fun r => by have := r.un; omega
  refine def_of0 F sc_worth_of (fun _ _ _ _ _ _ us hl => match us, hl with | [_, _], _ => rfl) (fun vs H Q E h => len_R h) (fun cdv A outer s H vs Q E hr h => ⟨_, (pss_cons (ps_set (i := 2) nd rfl (Or.inl rfl) (pe_callD D_place_at hr (by decide) rfl pass0 (pa_cons (pv 0) (pa_cons (pv 1) pa_nil))))
    (pss_cons (ps_asg (pe_ix ix_seq (pe_ix ix_seq (pv 0) pe_int (fun _ _ => rfl)) (pv 2) (fun _ _ => rfl)) (pg_tup rfl (pgs_cons (pg_name (i := 3) nd rfl (Or.inl rfl)) (pgs_cons (pg_name (i := 4) nd rfl (Or.inl rfl)) pgs_nil))))
    (pss_one (ps_ret (pe_callD D_plus hr (by decide) rfl pass0 (pa_cons (pv 4) (pa_cons (pe_callD D_times hr (by decide) rfl pass0 (pa_cons (pe_ix ix_seq (pe_callD D_slopes_of hr (by decide) rfl pass0 (pa_cons (pv 0) pa_nil)) (pv 2) (fun _ _ => rfl)) (pa_cons (pe_callD D_less hr (by decide) rfl pass0 (pa_cons (pv 1) (pa_cons (pv 3) pa_nil))) pa_nil))) pa_nil))))))), read_D ?_ h⟩)
  rintro S ds d ⟨u, t, rfl, hc, hz, ht, h0, hl, rfl⟩ _
  have hn : u.1 ≠ [] := by obtain ⟨w, r, e⟩ := hc.zero; rw [e]; simp
  obtain ⟨a, k, h1, h2, h3, h4⟩ := place_val u.2 t u.1 hn
  have ha := List.mem_of_getElem? h1
  have hk := slopes_sz hz k (List.mem_of_getElem? h2)
  have za := hz.1 a ha
  refine hasS_0 (hasS_seq_set (has_call (has_cons (has_var rfl) (has_cons (has_var rfl) has_nil)) rfl ⟨u, t, rfl, hc, hz, ht, h0, hl, rfl⟩) (hasS_seq_asg (has_ix (has_ix (has_var rfl) has_int rfl rfl) (has_var rfl) rfl (atI_nat (by rw [List.getElem?_map, h1]; rfl))) (g_tup (gs_cons g_name (gs_cons g_name gs_nil)) rfl)
    (hasS_ret (has_conv (has_call (has_cons (has_var rfl) (has_cons (has_call (has_cons (has_ix (has_call (has_cons (has_var rfl) has_nil) rfl ⟨u, rfl, hn, hc.sorted, hz, hl, rfl⟩) (has_var rfl) rfl (atI_nat (by rw [List.getElem?_map, h2]; rfl))) (has_cons (has_call (has_cons (has_var rfl) (has_cons (has_var rfl) has_nil)) rfl ⟨t, a.1, rfl, fit ht za.1 (by decide), rfl⟩) has_nil)) rfl ⟨k, t - a.1, rfl, fit hk (ht.sub za.1) (by decide), rfl⟩) has_nil)) rfl ⟨a.2, k * (t - a.1), rfl, fit za.2 (hk.mul (ht.sub za.1)) (by decide), rfl⟩) (by rw [h3]))))) rfl
def F_is_corner (ds : List PyData) (d : PyData) : Prop := ∃ x, ds = [x] ∧ clean x = true ∧ d = .bool (isCornerD x)
abbrev N_is_corner : List Str := ["thing"]
abbrev P_is_corner : List Str := ["thing"]
theorem sc_is_corner : FnScope N_is_corner P_is_corner (defScope (top 19)) := ⟨rfl, rfl, rfl, by decide +kernel, rfl, by decide +kernel, by decide +kernel⟩
theorem ok_is_corner (T : Txt mg) (O : OddOk K) (D_is_list : Def P w K mg base CX0 1 "is_list" P_is_list (spD TT K F_is_list 1)) (D_is_fraction : Def P w K mg base CX0 3 "is_fraction" P_is_fraction (spD TT K F_is_fraction 1)) (F : At K mg "is_corner" 19) : Def P w K mg base CX0 4 "is_corner" P_is_corner (spD TT K F_is_corner 1) := by
  have nd := sc_is_corner.nd
  have hu65 : ∀ {k A}, Room k A → A.units + 65 < cLine := fun r => by have := r.un; omega
  refine def_of0 F sc_is_corner (fun _ _ _ _ _ _ us hl => match us, hl with | [_], _ => rfl) (fun vs H Q E h => len_R h) (fun cdv A outer s H vs Q E hr h => ⟨_, (pss_one (ps_ret (pe_and (pe_callD D_is_list hr (by decide) rfl pass0 (pa_cons (pv 0) pa_nil)) (pe_and (pe_cmpR (op_eqD (Room.eq hr)) (pe_callB call_len_seq (by rfl) T.fr_len bb_len (pa_cons (pv 0) pa_nil)) pe_int (nomark _)) (pe_and (pe_callD D_is_fraction hr (by decide) rfl pass0 (pa_cons (pe_ix ix_seq (pv 0) pe_int (fun _ _ => rfl)) pa_nil)) (pe_one (pe_callD D_is_fraction hr (by decide) rfl pass0 (pa_cons (pe_ix ix_seq (pv 0) pe_int (fun _ _ => rfl)) pa_nil)))))))), read_D ?_ h⟩)
  rintro S ds d ⟨x, rfl, hx, rfl⟩ _
  have c1 : F_is_list [x] (.bool (isListD x)) := ⟨x, rfl, clean_strm hx, rfl⟩
  cases e : seqD x with
  | none =>
    refine hasS_0 (hasS_ret (has_conv (has_andV (b' := false) (c2 := 0) (has_call (has_cons (has_var rfl) has_nil) rfl c1) fun h => ?_) (by simp [isCornerD, isListD, e]))) rfl
    rw [isListD, e] at h; cases h
  | some es =>
    have ec := clean_seq hx e
    by_cases h2 : es.length = 2
    · obtain ⟨a, b, rfl⟩ : ∃ a b, es = [a, b] := by
        match es, h2 with
        | [a, b], _ => exact ⟨a, b, rfl⟩
      exact hasS_0 (hasS_ret (has_conv (has_andV (has_call (has_cons (has_var rfl) has_nil) rfl c1) fun _ => has_andV (has_eqI (has_len (has_var rfl) e) has_int) fun _ => has_andV (has_call (has_cons (has_ix (has_var rfl) has_int e rfl) has_nil) rfl ⟨a, rfl, cleanAll_mem ec a (by simp), rfl⟩) fun _ => has_call (has_cons (has_ix (has_var rfl) has_int e rfl) has_nil) rfl ⟨b, rfl, cleanAll_mem ec b (by simp), rfl⟩) (by simp [isCornerD, isListD, e]))) rfl
    · refine hasS_0 (hasS_ret (has_conv (has_andV (has_call (has_cons (has_var rfl) has_nil) rfl c1) fun _ => has_andV (b' := false) (c2 := 0) (has_eqI (has_len (has_var rfl) e) has_int) fun h => ?_) ?_)) rfl
      · exact absurd (by have := eq_of_beq h; omega) h2
      · have : isCornerD x = false := by
          unfold isCornerD
          rw [e]
          match es, h2 with
          | [], _ => rfl
          | [_], _ => rfl
          | [_, _], h => exact absurd rfl h
          | _ :: _ :: _ :: _, _ => rfl
        rw [this]; simp
end
end Q6
end
section
set_option maxHeartbeats 4000000
set_option exponentiation.threshold 20000
namespace Q6
open PySem PySem.Spec PyProof.Rows L2 LamX RZ Qk
theorem all_true {α : Type} {f : α → Bool} {l : List α} (h : ∀ x ∈ l, f x = true) : (l.map f).all id = true := by
  rw [List.all_map]; exact List.all_eq_true.mpr h
theorem map_bool {α : Type} (f : α → Bool) (l : List α) : l.map (fun x => PyData.bool (f x)) = (l.map f).map PyData.bool := by rw [List.map_map]; rfl
theorem at_0 {y : PyData} {ys : List PyData} : atI (y :: ys) 0 = some y := atI_nat (j := 0) rfl
theorem cut_1_part {y : PyData} {ys : List PyData} : ¬ (HT.sIx (y :: ys).length 0 (some 1) = 0 ∧ HT.sIx (y :: ys).length (y :: ys).length none = (y :: ys).length) := fun h => by
  have h1 := h.1
  unfold HT.sIx at h1
  simp at h1
theorem zip_id (es fs : List PyData) : (es.zip fs).map (fun p => PyData.tuple [p.1, p.2]) = (es.zip fs).map (fun p => .tuple [p.1, p.2]) := rfl
section
variable {P : Program} {w : World} {K : PySem.W.Frag} {mg : Str → Option Value} {base : Heap} {TT : List (Addr × Str)}
def F_is_curve_thing (ds : List PyData) (d : PyData) : Prop := ∃ x, ds = [x] ∧ clean x = true ∧ ((∃ u, rawU x u ∧ Crv u.1 ∧ u.1.length ≤ 50000 ∧ d = .bool true) ∨ (headOk x = false ∧ d = .bool false))
abbrev N_is_curve_thing : List Str := ["thing", "corner", "one", "other"]
abbrev P_is_curve_thing : List Str := ["thing"]
theorem sc_is_curve_thing : FnScope N_is_curve_thing P_is_curve_thing (defScope (top 20)) := ⟨rfl, rfl, rfl, by decide +kernel, rfl, by decide +kernel, by decide +kernel⟩
theorem ok_is_curve_thing (T : Txt mg) (O : OddOk K) (D_is_list : Def P w K mg base CX0 1 "is_list" P_is_list (spD TT K F_is_list 1)) (D_is_fraction : Def P w K mg base CX0 3 "is_fraction" P_is_fraction (spD TT K F_is_fraction 1)) (D_is_below : Def P w K mg base CX0 1 "is_below" P_is_below (spD TT K F_is_below 2)) (D_is_corner : Def P w K mg base CX0 4 "is_corner" P_is_corner (spD TT K F_is_corner 1)) (F : At K mg "is_curve_thing" 20) : Def P w K mg base CX0 5 "is_curve_thing" P_is_curve_thing (spD TT K F_is_curve_thing 1) := by
  have nd := sc_is_curve_thing.nd
  have hu65 : ∀ {k A}, Room k A → A.units + 65 < cLine := fun r => by have := r.un; omega
  refine def_of0 F sc_is_curve_thing (fun _ _ _ _ _ _ us hl => match us, hl with | [_], _ => rfl) (fun vs H Q E h => len_R h) (fun cdv A outer s H vs Q E hr h => ⟨_, (pss_cons (ps_if (PW.pt (pw_or (pt_not (pt_val (pe_callD D_is_list hr (by decide) rfl pass0 (pa_cons (pv 0) pa_nil)))) (pw_or (pt_cmpR (op_neD (Room.eq hr)) (pe_callB call_len_seq (by rfl) T.fr_len bb_len (pa_cons (pv 0) pa_nil)) pe_int (nomark _)) (pw_or (pt_not (pt_val (pe_callD D_is_list hr (by decide) rfl pass0 (pa_cons (pe_ix ix_seq (pv 0) pe_int (fun _ _ => rfl)) pa_nil)))) (pw_or1 (pt_not (pt_val (pe_callD D_is_fraction hr (by decide) rfl pass0 (pa_cons (pe_ix ix_seq (pv 0) pe_int (fun _ _ => rfl)) pa_nil))))))))) (pss_one (ps_ret pe_bl)) pss_nil)
    (pss_cons (ps_if (PW.pt (pw_or (pt_cmpR (op_eqD (Room.eq hr)) (pe_callB call_len_seq (by rfl) T.fr_len bb_len (pa_cons (pe_ix ix_seq (pv 0) pe_int (fun _ _ => rfl)) pa_nil)) pe_int (nomark _)) (pw_or (pt_not (pt_val (pe_callB (cr_all rfl) (by rfl) T.fr_all bb_all (pa_cons (pe_lc (own := [("corner", 1)]) (g := (gName 1)) (tt := tYes) (te := (tCall (spD TT K F_is_corner 1) [] (fun _ _ _ => False) (tCons (tVar 1) tNil))) rfl nd (pi_seq (pe_ix ix_seq (pv 0) pe_int (fun _ _ => rfl))) (blkOk_by (N := N_is_curve_thing) (sc := defScope (top 20)) (own := [("corner", 1)]) (by decide +kernel)) (fun _ _ _ _ _ => (pg_name (i := 1) nd rfl (Or.inl rfl))) (fun _ _ _ _ _ => pts_nil) (fun _ _ _ _ _ => (pe_callD D_is_corner hr (by decide) rfl pass0 (pa_cons (pv 1) pa_nil)))) pa_nil)))) (pw_or1 (pt_cmpR (op_neD (Room.eq hr)) (pe_ix ix_seq (pe_ix ix_seq (pe_ix ix_seq (pe_ix ix_seq (pv 0) pe_int (fun _ _ => rfl)) pe_int (fun _ _ => rfl)) pe_int (fun _ _ => rfl)) pe_int (fun _ _ => rfl)) pe_int (nomark _)))))) (pss_one (ps_ret pe_bl)) pss_nil)
    (pss_one (ps_ret (pe_callB (cr_all rfl) (by rfl) T.fr_all bb_all (pa_cons (pe_lc (own := [("one", 2), ("other", 3)]) (g := (gTup K 2 (gCons (gName 2) (gCons (gName 3) gNil)))) (tt := tYes) (te := (tCall (spD TT K F_is_below 2) [] (fun _ _ _ => False) (tCons (tOp (rIx K) (tVar 2) (tC (.int 0))) (tCons (tOp (rIx K) (tVar 3) (tC (.int 0))) tNil)))) rfl nd (pi_zipA rfl T.fr_zip (pa_cons (pe_ix ix_seq (pv 0) pe_int (fun _ _ => rfl)) (pa_cons (pe_slice (sl_list.or sl_tup) (pe_ix ix_seq (pv 0) pe_int (fun _ _ => rfl)) (po_some pe_int) po_none) pa_nil))) (blkOk_by (N := N_is_curve_thing) (sc := defScope (top 20)) (own := [("one", 2), ("other", 3)]) (by decide +kernel)) (fun _ _ _ _ _ => (pg_tup rfl (pgs_cons (pg_name (i := 2) nd rfl (Or.inl rfl)) (pgs_cons (pg_name (i := 3) nd rfl (Or.inl rfl)) pgs_nil)))) (fun _ _ _ _ _ => pts_nil) (fun _ _ _ _ _ => (pe_callD D_is_below hr (by decide) rfl pass0 (pa_cons (pe_ix ix_seq (pv 2) pe_int (fun _ _ => rfl)) (pa_cons (pe_ix ix_seq (pv 3) pe_int (fun _ _ => rfl)) pa_nil))))) pa_nil)))))), read_D ?_ h⟩)
  rintro S ds d ⟨x, rfl, hx, hc⟩ _
  have c1 : F_is_list [x] (.bool (isListD x)) := ⟨x, rfl, clean_strm hx, rfl⟩
  rcases hc with ⟨u, ⟨a, b, e, ⟨es, ea, hp⟩, hb⟩, hcrv, hlen, rfl⟩ | ⟨hh, rfl⟩
  · have ca : clean a = true := clean_of ea (rawKs_clean hp)
    have c2 : F_is_list [a] (.bool (isListD a)) := ⟨a, rfl, clean_strm ca, rfl⟩
    have c3 : F_is_fraction [b] (.bool (isFracD b)) := ⟨b, rfl, hb.clean, rfl⟩
    have n0 : es ≠ [] := by
      obtain ⟨w0, r0, e0⟩ := hcrv.zero
      intro z
      have := paired_len hp
      rw [z, e0] at this; simp at this
    have el : es.length = u.1.length := paired_len hp
    refine hasS_0 (c := 0 + (0 + 0) + _) (hasS_ifret (c2 := 0) (c3 := 0) (hast_or (hast_not (hast_B (has_call (has_cons (has_var rfl) has_nil) rfl c1))) fun _ => hast_or (hast_test (has_neI (has_len (has_var rfl) e) has_int)) fun _ => hast_or (hast_not (hast_B (has_call (has_cons (has_ix (has_var rfl) has_int e rfl) has_nil) rfl c2))) fun _ => hast_not (hast_B (has_call (has_cons (has_ix (has_var rfl) has_int e rfl) has_nil) rfl c3))) (fun hq => ?_) fun hq => ?_) rfl
    · simp [isListD, e, ea, hb.frac] at hq
    · have hall : (es.map isCornerD).all id = true := all_true fun y hy => by
        obtain ⟨k, _, hk⟩ := paired_mem hp y hy
        exact hk.corner
      obtain ⟨w0, r0, e0⟩ := hcrv.zero
      obtain ⟨y, ys, rfl⟩ : ∃ y ys, es = y :: ys := by
        cases es with
        | nil => exact absurd rfl n0
        | cons y ys => exact ⟨y, ys, rfl⟩
      rw [e0] at hp
      have hy : rawK y (0, w0) := by cases hp with | cons h _ => exact h
      obtain ⟨m0, v0, ey, ⟨n, m, em, hm, _, _, hz⟩, _⟩ := hy
      have hn : n = 0 := by
        have hmm : (m : Rat) ≠ 0 := by
          intro z; have : m = 0 := by exact_mod_cast z
          omega
        have h0 : (0 : Rat) = (n : Rat) / (m : Rat) := hz
        have : (n : Rat) = 0 := by grind
        exact_mod_cast this
      subst hn
      refine hasS_0 (hasS_ifret (c2 := 0) (c3 := 0) (hast_or (hast_test (has_eqI (has_len (has_ix (has_var rfl) has_int e rfl) ea) has_int)) fun _ => hast_or (hast_not (hast_B (has_all (bs := (y :: ys).map isCornerD) (has_conv (has_map (y :: ys) (fun x => x) (fun x => .bool (isCornerD x)) (i_conv (i_seq (has_ix (has_var rfl) has_int e rfl) ea) (by simp)) (by rw [el]; omega)
        fun y' hy' => ⟨_, _, g_name, by simp, has_call (has_cons (has_var rfl) has_nil) rfl ⟨y', rfl, ?_, rfl⟩⟩) (by rw [map_bool])))))
        fun _ => hast_test (has_neI (has_ix (has_ix (has_ix (has_ix (has_var rfl) has_int e rfl) has_int ea at_0) has_int ey rfl) has_int em rfl) has_int)) (fun hq2 => ?_) fun hq2 => ?_) (by simp)
      · obtain ⟨k, _, hk⟩ := paired_mem hp y' hy'
        exact hk.clean
      · rw [hall] at hq2; simp at hq2; omega
      · have hpairs : ∀ p ∈ (y :: ys).zip ((y :: ys).drop 1), ∃ kk : Cor × Cor, rawK p.1 kk.1 ∧ rawK p.2 kk.2 ∧ kk.1.1 < kk.2.1 := fun p hp' => by
          obtain ⟨q, hq, h1, h2⟩ := paired_zip hp p hp'
          rw [← e0] at hq
          exact ⟨q, h1, h2, sorted_pair hcrv.sorted q hq⟩
        have elem : ∀ p ∈ (y :: ys).zip ((y :: ys).drop 1), HasE ⟨K, TT, S⟩ 0 (tCall (spD TT K F_is_below 2) [] (fun _ _ _ => False) (tCons (tOp (rIx K) (tVar 2) (tC (.int 0))) (tCons (tOp (rIx K) (tVar 3) (tC (.int 0))) tNil))) ((((wipeC (cxt ⟨K, TT, S⟩ [x] 4) [2, 3]).set 2 (some (tyD _ p.1))).set 3 (some (tyD _ p.2)))) (tyD _ (.bool true)) := fun p hp' => by
          obtain ⟨kk, ⟨a1, b1, e1, f1, _⟩, ⟨a2, b2, e2, f2, _⟩, hlt⟩ := hpairs p hp'
          exact has_conv (has_le (has_call (has_cons (has_ix (has_var rfl) has_int e1 rfl) (has_cons (has_ix (has_var rfl) has_int e2 rfl) has_nil)) rfl (f1.below f2)) (by simp)) (by rw [decide_eq_true hlt])
        cases a with
        | list es' =>
          cases ea
          exact hasS_0 (hasS_ret (has_conv (has_all (bs := ((y :: ys).zip ((y :: ys).drop 1)).map fun _ => true) (has_conv (has_map ((y :: ys).zip ((y :: ys).drop 1)) (fun p => .tuple [p.1, p.2]) (fun _ => .bool true)
            (i_conv (i_zip (has_ix (has_var rfl) has_int e rfl) (has_sl (has_ix (has_var rfl) has_int e rfl) (ho_some has_int) ho_none) rfl rfl rfl) (by rw [cut_1])) (by simp at el ⊢; omega) fun p hp' => ⟨_, _, g_tup (gs_cons g_name (gs_cons g_name gs_nil)) rfl, by simp, elem p hp'⟩) (by rw [map_bool]))) (by rw [all_true fun _ _ => rfl]))) (by simp)
        | tuple es' =>
          cases ea
          exact hasS_0 (hasS_ret (has_conv (has_all (bs := ((y :: ys).zip ((y :: ys).drop 1)).map fun _ => true) (has_conv (has_map ((y :: ys).zip ((y :: ys).drop 1)) (fun p => .tuple [p.1, p.2]) (fun _ => .bool true)
            (i_conv (i_zip (has_ix (has_var rfl) has_int e rfl) (has_slT (has_ix (has_var rfl) has_int e rfl) (ho_some has_int) ho_none cut_1_part) rfl rfl rfl) (by rw [cut_1])) (by simp at el ⊢; omega) fun p hp' => ⟨_, _, g_tup (gs_cons g_name (gs_cons g_name gs_nil)) rfl, by simp, elem p hp'⟩) (by rw [map_bool]))) (by rw [all_true fun _ _ => rfl]))) (by simp)
        | _ => cases ea
  · cases e : seqD x with
    | none =>
      refine hasS_0 (hasS_ifret (c2 := 0) (c3 := 0) (hast_or (c2 := 0) (b' := true) (hast_not (hast_B (has_call (has_cons (has_var rfl) has_nil) rfl c1))) fun hq => ?_) (fun _ => hasS_ret has_bl) fun hq => ?_) (by simp)
      · rw [isListD, e] at hq; simp at hq
      · rw [isListD, e] at hq; simp at hq
    | some ds =>
      by_cases h2 : ds.length = 2
      · obtain ⟨a, b, rfl⟩ : ∃ a b, ds = [a, b] := by
          match ds, h2 with
          | [a, b], _ => exact ⟨a, b, rfl⟩
        have ec := clean_seq hx e
        have ca := cleanAll_mem ec a (by simp)
        have cb := cleanAll_mem ec b (by simp)
        have hh2 : (isListD a && isFracD b) = false := by unfold headOk at hh; rw [e] at hh; exact hh
        refine hasS_0 (hasS_ifret (c2 := 0) (c3 := 0) (hast_or (hast_not (hast_B (has_call (has_cons (has_var rfl) has_nil) rfl c1))) fun _ => hast_or (hast_test (has_neI (has_len (has_var rfl) e) has_int)) fun _ => hast_or (hast_not (hast_B (has_call (has_cons (has_ix (has_var rfl) has_int e rfl) has_nil) rfl ⟨a, rfl, clean_strm ca, rfl⟩))) fun _ => hast_not (hast_B (has_call (has_cons (has_ix (has_var rfl) has_int e rfl) has_nil) rfl ⟨b, rfl, cb, rfl⟩))) (fun _ => hasS_ret has_bl) fun hq => ?_) (by simp)
        rw [isListD, e] at hq
        cases h : isListD a <;> cases h' : isFracD b <;> simp [h, h'] at hq hh2
      · refine hasS_0 (hasS_ifret (c2 := 0) (c3 := 0) (hast_or (hast_not (hast_B (has_call (has_cons (has_var rfl) has_nil) rfl c1))) fun _ => hast_or (c2 := 0) (b' := true) (hast_test (has_neI (has_len (has_var rfl) e) has_int)) fun hq => ?_) (fun _ => hasS_ret has_bl) fun hq => ?_) (by simp)
        · simp at hq; omega
        · simp at hq
/-- a curve handed in, its corners -/
theorem rawK_told {a b : PyData} {k : Cor} (h1 : rawF a k.1) (h2 : rawF b k.2) : F_told [a] (encF k.1) ∧ F_told [b] (encF k.2) := by
  obtain ⟨n, m, e, h, _, h3, h4⟩ := h1
  obtain ⟨n', m', e', h', _, h3', h4'⟩ := h2
  have big : (2 : Nat) ^ 1000 ≤ 2 ^ 9000 := Nat.pow_le_pow_right (by decide) (by decide)
  exact ⟨⟨a, n, m, rfl, e, h, Nat.lt_of_lt_of_le h3 big, by rw [h4]⟩, ⟨b, n', m', rfl, e', h', Nat.lt_of_lt_of_le h3' big, by rw [h4']⟩⟩
theorem rawF_told {a : PyData} {q : Rat} (h : rawF a q) : F_told [a] (encF q) := (rawK_told (k := (q, q)) h h).1
theorem rawF.sz {a : PyData} {q : Rat} (h : rawF a q) : Sz 1000 q := by
  obtain ⟨n, m, e, h, h2, h3, h4⟩ := h
  have := sz_div h h2 h3
  rw [← h4] at this
  exact this
theorem paired_map {α β : Type} {R : α → β → Prop} {f : β → PyData} {g : α → PyData} {es : List α} {c : List β} (h : Paired R es c) (e : ∀ a b, R a b → g a = f b) : es.map g = c.map f := by
  induction h with
  | nil => rfl
  | cons h _ ih => rw [List.map_cons, List.map_cons, ih, e _ _ h]
/-- a corner handed in, told -/
def kOf (x : PyData) : Cor := match seqD x with
  | some [a, b] => (fOf a, fOf b)
  | _ => (0, 0)
where fOf (x : PyData) : Rat := match seqD x with
  | some [.int n, .int m] => (n : Rat) / (m : Rat)
  | _ => 0
theorem kOf_raw {x : PyData} {k : Cor} (h : rawK x k) : kOf x = k := by
  obtain ⟨a, b, e, ⟨n, m, e1, _, _, _, h1⟩, ⟨n', m', e2, _, _, _, h2⟩⟩ := h
  unfold kOf
  rw [e]
  show (kOf.fOf a, kOf.fOf b) = k
  unfold kOf.fOf
  rw [e1, e2]
  exact Prod.ext h1.symm h2.symm
def F_as_told (ds : List PyData) (R : Res) : Prop := ∃ (x : PyData) (u : Cur), ds = [x] ∧ rawU x u ∧ Crv u.1 ∧ u.1.length ≤ 50000 ∧ R = rU ((normC u.1 u.2).map encK) (encF u.2)
abbrev N_as_told : List Str := ["curve", "moment", "worth"]
abbrev P_as_told : List Str := ["curve"]
theorem sc_as_told : FnScope N_as_told P_as_told (defScope (top 24)) := ⟨rfl, rfl, rfl, by decide +kernel, rfl, by decide +kernel, by decide +kernel⟩
theorem ok_as_told (T : Txt mg) (O : OddOk K) (D_normal : Def P w K mg base CX0 5 "normal" P_normal (spR TT K 0 F_normal 2)) (D_told : Def P w K mg base CX0 2 "told" P_told (spD TT K F_told 1)) (F : At K mg "as_told" 24) : Def P w K mg base CX0 6 "as_told" P_as_told (spR TT K 0 F_as_told 1) := by
  have nd := sc_as_told.nd
  have hu65 : ∀ {k A}, Room k A → A.units + 65 < cLine := fun r => by have := r.un; omega
  refine def_of0 F sc_as_told (fun _ _ _ _ _ _ us hl => match us, hl with | [_], _ => rfl) (fun vs H Q E h => len_R h) (fun cdv A outer s H vs Q E hr h => ⟨_, (pss_one (ps_ret (pe_callD D_normal hr (by decide) rfl pass0 (pa_cons (pe_lc (own := [("moment", 1), ("worth", 2)]) (g := (gSeq K 2 (gCons (gName 1) (gCons (gName 2) gNil)))) (tt := tYes) (te := (tTup (tCons (tCall (spD TT K F_told 1) [] (fun _ _ _ => False) (tCons (tVar 1) tNil)) (tCons (tCall (spD TT K F_told 1) [] (fun _ _ _ => False) (tCons (tVar 2) tNil)) tNil)))) rfl nd (pi_seq (pe_ix ix_seq (pv 0) pe_int (fun _ _ => rfl))) (blkOk_by (N := N_as_told) (sc := defScope (top 24)) (own := [("moment", 1), ("worth", 2)]) (by decide +kernel)) (fun _ _ _ _ _ => (pg_seq rfl (pgs_cons (pg_name (i := 1) nd rfl (Or.inl rfl)) (pgs_cons (pg_name (i := 2) nd rfl (Or.inl rfl)) pgs_nil)))) (fun _ _ _ _ _ => pts_nil) (fun _ _ _ _ _ => (pe_tup (pa_cons (pe_callD D_told hr (by decide) rfl pass0 (pa_cons (pv 1) pa_nil)) (pa_cons (pe_callD D_told hr (by decide) rfl pass0 (pa_cons (pv 2) pa_nil)) pa_nil))))) (pa_cons (pe_callD D_told hr (by decide) rfl pass0 (pa_cons (pe_ix ix_seq (pv 0) pe_int (fun _ _ => rfl)) pa_nil)) pa_nil))))), read_R ?_ h⟩)
  rintro S ds R ⟨x, u, rfl, ⟨a, b, e, ⟨es, ea, hp⟩, hb⟩, hc, hl, rfl⟩ _
  have hn : u.1 ≠ [] := by obtain ⟨w, r, e⟩ := hc.zero; rw [e]; simp
  have el : es.length = u.1.length := paired_len hp
  have hz : SzU (u.1, u.2) := by
    refine ⟨fun k hk => ?_, hb.sz⟩
    have : ∀ {es : List PyData} {c : List Cor}, Paired rawK es c → ∀ k ∈ c, Sz 1000 k.1 ∧ Sz 1000 k.2 := by
      intro es c h
      induction h with
      | nil => intro k hk; cases hk
      | cons h _ ih =>
        intro k hk
        rcases List.mem_cons.mp hk with z | z
        · obtain ⟨_, _, _, h1, h2⟩ := h
          rw [z]; exact ⟨h1.sz, h2.sz⟩
        · exact ih k z
    exact this hp k hk
  refine hasS_0 (hasS_retCU (has_cons (has_conv (has_map (c := 0) es (fun x => x) (fun x => encK (kOf x)) (i_conv (i_seq (has_ix (has_var rfl) has_int e rfl) ea) (by simp)) (by rw [el]; omega) fun y hy => ?_) (by
    show _ = encC u.1
    unfold encC
    rw [paired_map hp (fun a b h => by rw [kOf_raw h])])) (has_cons (has_call (has_cons (has_ix (has_var rfl) has_int e rfl) has_nil) rfl (rawF_told hb)) has_nil)) rfl ⟨u.1, u.2, rfl, hn, hc.sorted, hz, hl, rfl⟩) (by simp)
  obtain ⟨k, _, hk⟩ := paired_mem hp y hy
  rw [kOf_raw hk]
  obtain ⟨a', b', e', h1, h2⟩ := hk
  exact ⟨_, _, g_seq (gs_cons g_name (gs_cons g_name gs_nil)) e' rfl, by simp, has_le (has_tup (has_cons (has_call (has_cons (has_var rfl) has_nil) rfl (rawK_told h1 h2).1) (has_cons (has_call (has_cons (has_var rfl) has_nil) rfl (rawK_told h1 h2).2) has_nil)) (by simp)) (by simp)⟩
def F_many_times (ds : List PyData) (R : Res) : Prop := ∃ (u : Cur) (f : Rat), ds = [encU u, encF f] ∧ u.1 ≠ [] ∧ Sorted u.1 ∧ (∀ k ∈ u.1, Sz 1000 k.1 ∧ Sz 1000 k.2 ∧ Sz 1000 (f * k.2)) ∧ Sz 1000 u.2 ∧ Sz 1000 (f * u.2) ∧ Sz 1000 f ∧ u.1.length ≤ 50000 ∧ R = rU ((timesC f u).1.map encK) (encF (timesC f u).2)
abbrev N_many_times : List Str := ["curve", "factor", "moment", "worth"]
abbrev P_many_times : List Str := ["curve", "factor"]
theorem sc_many_times : FnScope N_many_times P_many_times (defScope (top 37)) := ⟨rfl, rfl, rfl, by decide +kernel, rfl, by decide +kernel, by decide +kernel⟩
theorem ok_many_times (T : Txt mg) (O : OddOk K) (D_normal : Def P w K mg base CX0 5 "normal" P_normal (spR TT K 0 F_normal 2)) (D_times : Def P w K mg base CX0 2 "times" P_times (spD TT K F_times 2)) (F : At K mg "many_times" 37) : Def P w K mg base CX0 6 "many_times" P_many_times (spR TT K 0 F_many_times 2) := by
  have nd := sc_many_times.nd
  have hu65 : ∀ {k A}, Room k A → A.units + 65 < cLine := fun r => by have := r.un; omega
  refine def_of0 F sc_many_times (fun _ _ _ _ _ _ us hl => match us, hl with | [_, _], _ => rfl) (fun vs H Q E h => len_R h) (fun cdv A outer s H vs Q E hr h => ⟨_, (pss_one (ps_ret (pe_callD D_normal hr (by decide) rfl pass0 (pa_cons (pe_lc (own := [("moment", 2), ("worth", 3)]) (g := (gTup K 2 (gCons (gName 2) (gCons (gName 3) gNil)))) (tt := tYes) (te := (tTup (tCons (tVar 2) (tCons (tCall (spD TT K F_times 2) [] (fun _ _ _ => False) (tCons (tVar 1) (tCons (tVar 3) tNil))) tNil)))) rfl nd (pi_seq (pe_ix ix_seq (pv 0) pe_int (fun _ _ => rfl))) (blkOk_by (N := N_many_times) (sc := defScope (top 37)) (own := [("moment", 2), ("worth", 3)]) (by decide +kernel)) (fun _ _ _ _ _ => (pg_tup rfl (pgs_cons (pg_name (i := 2) nd rfl (Or.inl rfl)) (pgs_cons (pg_name (i := 3) nd rfl (Or.inl rfl)) pgs_nil)))) (fun _ _ _ _ _ => pts_nil) (fun _ _ _ _ _ => (pe_tup (pa_cons (pv 2) (pa_cons (pe_callD D_times hr (by decide) rfl pass0 (pa_cons (pv 1) (pa_cons (pv 3) pa_nil))) pa_nil))))) (pa_cons (pe_callD D_times hr (by decide) rfl pass0 (pa_cons (pv 1) (pa_cons (pe_ix ix_seq (pv 0) pe_int (fun _ _ => rfl)) pa_nil))) pa_nil))))), read_R ?_ h⟩)
  rintro S ds R ⟨u, f, rfl, hn, hs, hz, hz2, hz3, hf, hl, rfl⟩ _
  have hn' : timesL f u.1 ≠ [] := by unfold timesL; simpa using hn
  refine hasS_0 (hasS_retCU (has_cons (has_conv (has_map u.1 encK (fun k => .tuple [encF k.1, encF (f * k.2)]) (i_seq (has_ix (has_var rfl) has_int rfl rfl) rfl) (by omega) fun k hk => ⟨_, _, g_tup (gs_cons g_name (gs_cons g_name gs_nil)) rfl, by simp, has_tup (has_cons (has_var rfl) (has_cons (has_call (has_cons (has_var rfl) (has_cons (has_var rfl) has_nil)) rfl ⟨f, k.2, rfl, fit hf (hz k hk).2.1 (by decide), rfl⟩) has_nil)) (by simp)⟩) (by
    show _ = encC (timesL f u.1)
    unfold encC timesL
    rw [List.map_map]; rfl)) (has_cons (has_call (has_cons (has_var rfl) (has_cons (has_ix (has_var rfl) has_int rfl rfl) has_nil)) rfl ⟨f, u.2, rfl, fit hf hz2 (by decide), rfl⟩) has_nil)) rfl ⟨timesL f u.1, f * u.2, rfl, hn', timesL_sorted f hs, ⟨fun k hk => ?_, hz3⟩, by unfold timesL; simpa using hl, rfl⟩) (by simp)
  unfold timesL at hk
  obtain ⟨q, hq, e⟩ := List.mem_map.mp hk
  rw [← e]
  exact ⟨(hz q hq).1, (hz q hq).2.2⟩
end
end Q6
end
section
set_option maxHeartbeats 4000000
set_option exponentiation.threshold 20000
namespace Q6
open PySem PySem.Spec PyProof.Rows L2 LamX RZ Qk
/-- what stands behind the top of a def that holds lambdas -/
structure AtL (K : PySem.W.Frag) (mg : Str → Option Value) (base : Heap) (T : List (Addr × Str)) (x : Str) (i : Nat) : Prop where
  ex : ∃ fd, FnP K x (top i) (He.ga K x) fd ∧ ∃ c Pt : Addr, fd.code = .ref c ∧ TabB base mg c Pt ∧ (Pt, x ++ ".<locals>." ++ "<lambda>") ∈ T ∧ ∀ p ∈ T, p.1 = Pt → p.2 = x ++ ".<locals>." ++ "<lambda>"
  gm : mg x = some (.ref (He.ga K x))
section
variable {P : Program} {w : World} {K : PySem.W.Frag} {mg : Str → Option Value} {base : Heap} {CX : CXT} {TT : List (Addr × Str)}
theorem def_ofL {x : Str} {i k : Nat} {N ps : List Str} {sp : Sp} (F : AtL K mg base TT x i) (S : FnScope N ps (defScope (top i)))
    (hb : ∀ (kV doc pm : Value) (an : Option Addr) (cdv ct : Value) (us : List Value), us.length = ps.length → bindArgs (PySem.W.fnOf x x (defArgs (top i)) (defBody (top i)) (defScope (top i)) .none kV doc pm an cdv ct) ⟨us, []⟩ = pure (ps.zip us))
    (len : ∀ vs H Q E, sp vs H Q E → vs.length = ps.length)
    (hbody : ∀ (c Pt : Addr) (TB : TabB base mg c Pt) (hmT : (Pt, x ++ ".<locals>." ++ "<lambda>") ∈ TT) (hu : ∀ p ∈ TT, p.1 = Pt → p.2 = x ++ ".<locals>." ++ "<lambda>") (A : Around) (outer : List Env) (s : Shared) (H : Hp) (vs : List V) (Q : VK) (E : XK), Room k (A.deeper (envOfC x (defScope (top i)) s.heap.objs.size (He.ga K x) (.ref c))) → sp vs H Q E →
      ∃ t, PSs (cxOf CX0 P w K mg base N x (defScope (top i)) (He.ga K x) (.ref c) A outer s H E).nox (defBody (top i)) t ∧ t { nx := fun _ H' => Q .non H', rt := Q } (L2.start N vs) H) : Def P w K mg base CX0 (k + 1) x ps sp := by
  obtain ⟨fd, F1, c, Pt, hc, TB, hmT, hu⟩ := F.ex
  obtain ⟨oc, od, dV, kV, doc, pm, an, cdv, ct, osl, efd, lk, hcd, hdv, hkw⟩ := F1.ex
  have e : cdv = .ref c := by rw [efd] at hc; exact hc
  subst e
  refine ⟨⟨fd, ?_, F1.bindsN hb, fnP_fd F1⟩, F.gm, F1.kp⟩
  subst efd
  refine fn_of lk hcd S len fun A outer s H vs Q E hr hsp => ?_
  obtain ⟨t, h1, h2⟩ := hbody c Pt TB hmT hu A outer s H vs Q E hr hsp
  exact ⟨t, PSs.nox h1, h2⟩
end
/-! ### the key of a moment -/
def keyF (q : Rat) : List L2.Key := [Sum.inl q.num, Sum.inl (q.den : Int)]
theorem keyF_inj {p q : Rat} (h : keyF p = keyF q) : p = q := by
  unfold keyF at h
  simp only [List.cons.injEq, Sum.inl.injEq, and_true] at h
  exact Rat.ext h.1 (by omega)
theorem put_keys {kvs : List (List L2.Key × V)} {ks : List Rat} {q : Rat} {v : V} (h : kvs.map (·.1) = ks.map keyF) (hn : ks.Nodup) : ∃ ks' : List Rat, (putK kvs (keyF q) v).map (·.1) = ks'.map keyF ∧ ks'.Nodup ∧ ∀ r, r ∈ ks' ↔ r = q ∨ r ∈ ks := by
  unfold putK
  have hany : (kvs.any fun kv => decide (kv.1 = keyF q)) = decide (q ∈ ks) := by
    rw [Bool.eq_iff_iff]
    simp only [List.any_eq_true, decide_eq_true_eq]
    constructor
    · rintro ⟨kv, h1, h2⟩
      have : kv.1 ∈ ks.map keyF := by rw [← h]; exact List.mem_map.mpr ⟨kv, h1, rfl⟩
      obtain ⟨r, h3, h4⟩ := List.mem_map.mp this
      rw [h2] at h4
      rw [← keyF_inj h4]; exact h3
    · intro hq
      have : keyF q ∈ kvs.map (·.1) := by rw [h]; exact List.mem_map.mpr ⟨q, hq, rfl⟩
      obtain ⟨kv, h1, h2⟩ := List.mem_map.mp this
      exact ⟨kv, h1, h2⟩
  by_cases hq : q ∈ ks
  · rw [if_pos (by rw [hany]; exact decide_eq_true hq)]
    refine ⟨ks, ?_, hn, fun r => ⟨.inr, fun z => z.elim (fun e => by rw [e]; exact hq) id⟩⟩
    rw [List.map_map, ← h]
    refine List.map_congr_left fun kv _ => ?_
    show (if kv.1 = keyF q then (kv.1, v) else kv).1 = kv.1
    split <;> rfl
  · rw [if_neg (by rw [hany]; simpa using hq)]
    refine ⟨ks ++ [q], by simp [h], ?_, fun r => by simp [or_comm]⟩
    rw [List.nodup_append]
    exact ⟨hn, by simp, fun a ha b hb => by
      have : b = q := by simpa using hb
      rw [this]; intro z; rw [z] at ha; exact hq ha⟩
section
variable {C : Cf} {Γ : Cxt} {te : TE} {c : Nat} {l : List Rat} {i j : Nat}
theorem dA_encF {H : Hp} {l : List Rat} {xs : List V} (r : DqAll C H xs (l.map encF)) : Paired (PairAt C.K H) xs (l.map fun q => (q.num, (q.den : Int))) := by
  induction l generalizing xs with
  | nil => cases r; exact .nil
  | cons q l ih =>
    cases r with
    | cons h r =>
      refine .cons ?_ (ih r)
      obtain ⟨p, ys, e, hp, hr⟩ := d_tup h
      refine ⟨p, e, ?_⟩
      have : ys = [.int q.num, .int (q.den : Int)] := ints_of (ns := [q.num, (q.den : Int)]) hr
      rw [← this]; exact hp
theorem paired_app_one {α β : Type} {R : α → β → Prop} {xs : List α} {ys : List β} {x : α} {y : β} (h : Paired R xs ys) (r : R x y) : Paired R (xs ++ [x]) (ys ++ [y]) := by
  induction h with
  | nil => exact .cons r .nil
  | cons h _ ih => exact .cons h ih
/-- list({x: True for x in ..}) of fractions -/
theorem has_keys (h : HasE C c te Γ (tyD C (.list (l.map encF)))) (hz : l.length ≤ 100000) (hi : i < Γ.length) : HasE C c (tCB (fun xs H Q => ∃ d kvs, xs = [V.ref d] ∧ Rd H d (.dT kvs) ∧ ∀ p bs, H p = none → IsKeys H kvs bs → Q (.ref p) (upd H p (.lst (bs.map V.ref)))) (tCons (tDcT (iSeq C.K te) (gName i) (tVar i) (tC (.bl true)) [i]) tNil)) Γ
    (tyP C fun d => ∃ ks : List Rat, d = .list (ks.map encF) ∧ ks.Nodup ∧ ∀ q, q ∈ ks ↔ q ∈ l) := fun M k σ H Q ok st q => by
  rw [st.1] at hi
  unfold tCB tCons tDcT
  refine (i_seq h rfl) M k σ H _ ok st ?_
  intro J H1 ds g1 o1 e w D hD
  subst e
  have hDM := o1.out hD
  have hlen : (l.map encF).length = l.length := by simp
  have w0 := w M
  refine ⟨fun t m H => m = l.length - t ∧ t ≤ l.length ∧ ∃ (kvs : List (List L2.Key × V)) (ks : List Rat), H D = some (.dT kvs) ∧ kvs.length ≤ t ∧ kvs.map (·.1) = ks.map keyF ∧ ks.Nodup ∧ (∀ q, q ∈ ks ↔ q ∈ l.take t) ∧ go C H1 H ∧ Ok C k M H ∧ ExtN (hide M H1) (hide M H), ⟨l.length, by simp, Nat.zero_le _, [], [], upd_same, Nat.le_refl _, rfl, List.nodup_nil, by simp, go.new hD, o1.new hD, (go.new (C := C) hD).k o1⟩, ?_⟩
  rintro t m H2 ⟨rfl, ht, kvs, ks, hkD, hkl, hk1, hk2, hk3, g2, o2, x2⟩
  by_cases hlt : t < l.length
  · refine .inr ⟨w0.goes t H2 (by rw [hlen]; exact hlt) ⟨x2, o2.dom⟩, fun H' => (t + 1) ≤ l.length ∧ ∃ (kvs : List (List L2.Key × V)) (ks : List Rat), H' D = some (.dT kvs) ∧ kvs.length ≤ t + 1 ∧ kvs.map (·.1) = ks.map keyF ∧ ks.Nodup ∧ (∀ q, q ∈ ks ↔ q ∈ l.take (t + 1)) ∧ go C H1 H' ∧ Ok C k M H' ∧ ExtN (hide M H1) (hide M H'), fun H' hN => ⟨l.length - (t + 1), by omega, rfl, hN.1, hN.2⟩, fun x H3 hy => ?_⟩
    obtain ⟨hh, d, hd, p⟩ := w0.yields t H2 x H3 (by rw [hlen]; exact hlt) ⟨x2, o2.dom⟩ hy
    have h3 : go C H2 H3 ∧ Ok C k M H3 ∧ H3 D = some (.dT kvs) := by
      rcases hh with z | ⟨To, ob, hTo, z⟩
      · subst z; exact ⟨go.refl _, o2, hkD⟩
      · subst z; exact ⟨go.new hTo, o2.new hTo, by rw [upd_ne (ne_of_none hkD hTo)]; exact hkD⟩
    obtain ⟨g3, o3, hD3⟩ := h3
    rw [List.getElem?_map, List.getElem?_eq_getElem hlt] at hd
    have ed : encF l[t] = d := Option.some.inj hd
    subst ed
    obtain ⟨b, ys, eb, hb, hr⟩ := d_tup p
    have hys : ys = [.int (l[t]).num, .int ((l[t]).den : Int)] := ints_of (ns := [(l[t]).num, ((l[t]).den : Int)]) hr
    subst hys eb
    refine ⟨?_, .ref b, ?_, kvs, keyF l[t], b, rfl, (hide_some hb).2, hD3, ?_, ?_⟩
    · show ((σ.set i none).set i _).set i none = σ.set i none
      rw [List.set_set, List.set_set]
    · rw [List.getElem?_set_self (by rw [wipe_length]; exact hi)]
    · exact Nat.lt_of_le_of_lt hkl (Nat.lt_of_lt_of_le (show t < 100000 by omega) (small_line (Nat.le_refl _)))
    · obtain ⟨ks', e1, e2, e3⟩ := put_keys (q := l[t]) (v := .bl true) hk1 hk2
      have hDS : D ∉ C.S := fun z => hDM (o1.sub _ z)
      refine ⟨hlt, putK kvs (keyF l[t]) (.bl true), ks', upd_same, ?_, e1, e2, fun r => ?_, ?_, ?_, ?_⟩
      · have := length_putK kvs (keyF l[t]) (.bl true); omega
      · rw [e3 r, hk3 r, List.take_succ, List.getElem?_eq_getElem hlt, List.mem_append]
        exact ⟨fun z => z.elim (fun e => .inr (by rw [e]; exact List.mem_singleton.mpr rfl)) .inl, fun z => z.elim .inr fun e => .inl (List.mem_singleton.mp e)⟩
      · have gg := g2.trans g3
        refine ⟨hide_ext fun b o nb eb tb => ⟨nb, ?_⟩, fun tb => ?_⟩
        · rw [upd_ne fun z => by rw [z, hD] at eb; cases eb]; exact gg.at nb eb tb
        · have t3 := gg.tabs tb
          intro pp hp
          obtain ⟨ps, a1, a2, a3⟩ := t3 pp hp
          refine ⟨ps, by rw [upd_ne (ne_of a1 hD3 fun z => by cases z)]; exact a1, a2, fun pos cv hc => ?_⟩
          obtain ⟨c0, c1, c2⟩ := a3 pos cv hc
          exact ⟨c0, c1, by rw [upd_ne (ne_of c2 hD3 fun z => by unfold CodeO at z; cases z)]; exact c2⟩
      · have t3 : Tabs C.T (upd H3 D (.dT (putK kvs (keyF l[t]) (.bl true)))) := fun pp hp => by
          obtain ⟨ps, a1, a2, a3⟩ := o3.tabs pp hp
          refine ⟨ps, by rw [upd_ne (ne_of a1 hD3 fun z => by cases z)]; exact a1, a2, fun pos cv hc => ?_⟩
          obtain ⟨c0, c1, c2⟩ := a3 pos cv hc
          exact ⟨c0, c1, by rw [upd_ne (ne_of c2 hD3 fun z => by unfold CodeO at z; cases z)]; exact c2⟩
        refine ⟨fun a ha => ?_, t3, o3.sub, ?_⟩
        · obtain ⟨xs, e⟩ := o3.dom a ha
          exact ⟨xs, by rw [upd_ne (ne_of e hD3 fun z => by cases z)]; exact e⟩
        · rcases o3.str with h | ⟨s, l', ns, sp, ct, mx, h1, h2, h3, h4, h5⟩
          · exact .inl h
          · exact .inr ⟨s, l', ns, sp, ct, mx, h1, h2, by rw [upd_ne (ne_of h3 hD3 fun z => by cases z)]; exact h3, by rw [upd_ne (ne_of h4 hD3 fun z => by cases z)]; exact h4, h5⟩
      · refine hide_ext fun b o nb eb tb => ⟨nb, ?_⟩
        rw [upd_ne fun z => by rw [z, hD] at eb; cases eb]
        exact (hide_some ((x2.trans (g3.k o2)) b o (by rw [hide_out nb]; exact eb) tb)).2
  · have et : t = l.length := by omega
    subst et
    refine .inl ⟨by have := w0.stops H2 ⟨x2, o2.dom⟩; rwa [hlen] at this, D, kvs, rfl, .inl hkD, fun p bs hp hbs => ?_⟩
    refine q _ _ ((g1.trans g2).trans (go.new hp)) (o2.new hp) ⟨.list (ks.map encF), ⟨ks, rfl, hk2, fun q => by rw [hk3 q, List.take_of_length_le (Nat.le_refl _)]⟩, .lst (dom_new o2 hp) ?_⟩
    have : ∀ {kvs : List (List L2.Key × V)} {ks : List Rat} {bs : List Addr}, Paired (fun p b => H2 b = some (.tup (p.1.map kV))) kvs bs → kvs.map (·.1) = ks.map keyF → DqAll C (hide M H2) (bs.map V.ref) (ks.map encF) := by
      intro kvs ks bs hp
      induction hp generalizing ks with
      | nil => intro e; cases ks with
        | nil => exact .nil
        | cons a r => cases e
      | @cons kv b kvs bs h _ ih =>
        intro e
        cases ks with
        | nil => cases e
        | cons r ks =>
          rw [List.map_cons, List.map_cons] at e
          obtain ⟨e1, e2⟩ := List.cons.inj e
          refine .cons ?_ (ih e2)
          rw [e1] at h
          refine .tup (xs := [.int r.num, .int (r.den : Int)]) ?_ (.cons (.int _) (.cons (.int _) .nil))
          rw [hide_out fun z => by obtain ⟨xs, e⟩ := o2.dom b z; rw [h] at e; cases e]
          exact h
    exact (this hbs hk1).ext ((go.new (C := C) hp).k o2)
theorem key_le {m : Int} {p q : Rat} (hm : 0 < m) (hp : (p.den : Int) ∣ m) (hq : (q.den : Int) ∣ m) : keyI m (p.num, (p.den : Int)) ≤ keyI m (q.num, (q.den : Int)) ↔ p ≤ q := by
  have val : ∀ r : Rat, (r.den : Int) ∣ m → ((r.num * (m / (r.den : Int)) : Int) : Rat) = r * (m : Rat) := fun r ⟨k, hk⟩ => by
    have hd := den_pos r
    have e : m / (r.den : Int) = k := by rw [hk]; exact Int.mul_ediv_cancel_left k (by omega)
    have hr := rat_eq r
    have hne : (((r.den : Int)) : Rat) ≠ 0 := int_ne hd
    have : (r.num : Rat) = r * (((r.den : Int)) : Rat) := by
      have := hr
      grind
    rw [e, hk, Rat.intCast_mul, Rat.intCast_mul, this, Rat.mul_assoc]
  have hm' : (0 : Rat) < (m : Rat) := by exact_mod_cast hm
  unfold keyI
  rw [← Rat.intCast_le_intCast, val p hp, val q hq]
  constructor
  · intro h; exact Rat.le_of_mul_le_mul_right h hm'
  · intro h; exact Rat.mul_le_mul_of_nonneg_right h (by grind)
/-- sorted(xs, key=..) of fractions, no two alike -/
theorem has_sortF {m : Int} (h : HasE C c te Γ (tyD C (.list (l.map encF)))) (hi : Γ[i]? = some (some (tyD C (.int m)))) (hm : 0 < m) (hd : ∀ q ∈ l, (q.den : Int) ∣ m) (hc : ∀ q ∈ l, CDivW m (q.den : Int) ∧ CMulW q.num (m / (q.den : Int))) (hn : l.Nodup) (hz : l.length ≤ 100000) :
    HasE C c (tSortK C.K C.T te i) Γ (tyD C (.list ((once l).map encF))) := fun M k σ H Q ok st q => h M k σ H _ ok st fun v H1 g1 o1 p => by
  obtain ⟨a, xs, ea, ha, hr⟩ := d_lst p
  obtain ⟨vm, e1, e2⟩ := st.2 i _ hi
  have e2 : vm = .int m := d_int e2
  subst e2
  have hP := dA_encF hr
  have hP' : Paired (PairAt C.K H1) xs (l.map fun q => (q.num, (q.den : Int))) := by
    have : ∀ {xs : List V} {qs : List (Int × Int)}, Paired (PairAt C.K (hide M H1)) xs qs → Paired (PairAt C.K H1) xs qs := by
      intro xs qs h
      induction h with
      | nil => exact .nil
      | cons h _ ih => obtain ⟨t, h1, h2⟩ := h; exact .cons ⟨t, h1, (hide_some h2).2⟩ ih
    exact this hP
  refine ⟨a, xs, _, m, ea, (hide_some ha).2, o1.tabs, e1, hP', fun qq hq => ?_, fun ps H2 pp x2 t2 hperm hpw hp => ?_⟩
  · obtain ⟨q0, h1, h2⟩ := List.mem_map.mp hq
    rw [← h2]; exact hc q0 h1
  · -- the heap behind
    have g2 : go C H1 H2 := ⟨hide_ext fun b o nb eb tb => ⟨nb, x2 b o eb tb⟩, fun _ => t2⟩
    have o2 : Ok C k M H2 := ⟨fun b hb => by obtain ⟨ys, e⟩ := o1.dom b hb; exact ⟨ys, x2 b _ e fun ps z => by cases z⟩, t2, o1.sub, by
      rcases o1.str with h | ⟨s, l', ns, sp, ct, mx, h1, h2, h3, h4, h5⟩
      · exact .inl h
      · exact .inr ⟨s, l', ns, sp, ct, mx, h1, h2, x2 _ _ h3 (fun ps z => by cases z), x2 _ _ h4 (fun ps z => by cases z), h5⟩⟩
    refine q _ _ ((g1.trans g2).trans (go.new hp)) (o2.new hp) (.lst (dom_new o2 hp) ?_)
    -- the triples, by the fractions
    have hz3 : ((l.zip xs).map fun z : Rat × V => ((z.1.num, (z.1.den : Int)), z.2)) = (l.map fun q => (q.num, (q.den : Int))).zip xs := by
      rw [List.zip_map_left]
      exact List.map_congr_left fun z _ => rfl
    obtain ⟨tr, htr, etr⟩ := perm_lift (fun z : Rat × V => ((z.1.num, (z.1.den : Int)), z.2)) hperm (l.zip xs) hz3
    have hlen : xs.length = l.length := by rw [dA_len hr]; simp
    have hfst : (tr.map (·.1)).Perm l := by
      have := htr.map (·.1)
      rwa [List.map_fst_zip (by omega)] at this
    have hmem : ∀ z ∈ tr, Dq C (hide M H1) z.2 (encF z.1) := fun z hz => by
      obtain ⟨n, hn⟩ := List.mem_iff_getElem?.mp (htr.mem_iff.mp hz)
      rw [List.getElem?_zip_eq_some] at hn
      obtain ⟨v0, h1, h2⟩ := dA_got (i := n) (d := encF z.1) hr (by rw [List.getElem?_map, hn.1]; rfl)
      rw [hn.2] at h1
      cases h1
      exact h2
    have hsrt : (tr.map (·.1)).Pairwise (· < ·) := by
      have h1 : (tr.map (·.1)).Nodup := hfst.nodup_iff.mpr hn
      have h2 : (tr.map (·.1)).Pairwise (· ≤ ·) := by
        rw [← etr, List.pairwise_map] at hpw
        rw [List.pairwise_map]
        refine hpw.imp_of_mem fun {a b} ha hb hab => ?_
        have ma : a.1 ∈ l := hfst.mem_iff.mp (List.mem_map.mpr ⟨a, ha, rfl⟩)
        have mb : b.1 ∈ l := hfst.mem_iff.mp (List.mem_map.mpr ⟨b, hb, rfl⟩)
        exact (key_le hm (hd _ ma) (hd _ mb)).mp hab
      exact (h2.and h1).imp fun {a b} h => by
        have := h.1
        have := h.2
        grind
    have eo : tr.map (·.1) = once l := once_eq hsrt fun x => hfst.mem_iff
    rw [← eo, ← etr]
    have : ∀ {tr : List (Rat × V)}, (∀ z ∈ tr, Dq C (hide M H1) z.2 (encF z.1)) → DqAll C (hide M H1) ((tr.map fun z => ((z.1.num, (z.1.den : Int)), z.2)).map (·.2)) ((tr.map (·.1)).map encF) := by
      intro tr h
      induction tr with
      | nil => exact .nil
      | cons z tr ih => exact .cons (h z (by simp)) (ih fun y hy => h y (by simp [hy]))
    exact ((this hmem).ext (g2.k o1)).ext ((go.new (C := C) hp).k o2)
end
end Q6
end
section
set_option maxHeartbeats 4000000
set_option exponentiation.threshold 2000000
namespace Q6
open PySem PySem.Spec PyProof.Rows L2 LamX RZ Qk
theorem Room.u1 {k : Nat} {A : Around} (r : Room k A) : A.units + 1 < cLine := by have := r.un; omega
theorem snoc_ind {α : Type} {p : List α → Prop} (h0 : p []) (h1 : ∀ l a, p l → p (l ++ [a])) (l : List α) : p l := by
  have : ∀ r : List α, p r.reverse := by
    intro r
    induction r with
    | nil => exact h0
    | cons a r ih => rw [List.reverse_cons]; exact h1 _ a ih
  have := this l.reverse
  rwa [List.reverse_reverse] at this
theorem ins_len {x : Rat} : ∀ {l : List Rat}, x ∉ l → (ins x l).length = l.length + 1
  | [], _ => rfl
  | y :: r, h => by
    unfold ins
    split
    · simp
    · rw [if_neg fun e => h (by rw [e]; simp)]
      simp [ins_len fun z => h (List.mem_cons_of_mem _ z)]
theorem once_len : ∀ {l : List Rat}, l.Nodup → (once l).length = l.length
  | [], _ => rfl
  | x :: r, h => by
    have h2 := List.nodup_cons.mp h
    show (ins x (once r)).length = _
    rw [ins_len fun z => h2.1 (mem_once.mp z), once_len h2.2]; rfl
/-- the common denominator so far -/
def cm (l : List Rat) : Nat := l.foldl (fun a q => Nat.lcm a q.den) 1
theorem cm_snoc (l : List Rat) (q : Rat) : cm (l ++ [q]) = Nat.lcm (cm l) q.den := by simp [cm]
theorem cm_pos (l : List Rat) : 0 < cm l := by
  refine snoc_ind (p := fun l => 0 < cm l) (by simp [cm]) (fun l q ih => ?_) l
  rw [cm_snoc]; exact Nat.lcm_pos ih q.den_pos
theorem cm_dvd {l : List Rat} {q : Rat} (h : q ∈ l) : q.den ∣ cm l := by
  revert h
  refine snoc_ind (p := fun l => q ∈ l → q.den ∣ cm l) (fun h => by cases h) (fun l r ih h => ?_) l
  rw [cm_snoc]
  rcases List.mem_append.mp h with h | h
  · exact Nat.dvd_trans (ih h) (Nat.dvd_lcm_left _ _)
  · rw [List.mem_singleton.mp h]; exact Nat.dvd_lcm_right _ _
theorem cm_lt {l : List Rat} (h : ∀ q ∈ l, Sz 1000 q) : cm l < 2 ^ (1000 * l.length + 1) := by
  revert h
  refine snoc_ind (p := fun l => (∀ q ∈ l, Sz 1000 q) → cm l < 2 ^ (1000 * l.length + 1)) (fun _ => by simp [cm]) (fun l r ih h => ?_) l
  · rw [cm_snoc]
    have h1 := ih fun q hq => h q (List.mem_append_left _ hq)
    have h2 := (h r (by simp)).2
    have h3 : Nat.lcm (cm l) r.den ≤ cm l * r.den := Nat.div_le_self _ _
    refine Nat.lt_of_le_of_lt h3 ?_
    have h4 : cm l * r.den < 2 ^ (1000 * l.length + 1) * 2 ^ 1000 := Nat.mul_lt_mul'' h1 h2
    rw [← Nat.pow_add] at h4
    have : 1000 * l.length + 1 + 1000 = 1000 * (l ++ [r]).length + 1 := by simp; omega
    rw [this] at h4; exact h4
section
variable {P : Program} {w : World} {K : PySem.W.Frag} {mg : Str → Option Value} {base : Heap} {TT : List (Addr × Str)}
def F_in_order (ds : List PyData) (d : PyData) : Prop := ∃ l : List Rat, ds = [.list (l.map encF)] ∧ l.Nodup ∧ (∀ q ∈ l, Sz 1000 q) ∧ l.length ≤ 900 ∧ d = .list ((once l).map encF)
abbrev N_in_order : List Str := ["things", "common", "thing"]
abbrev P_in_order : List Str := ["things"]
theorem sc_in_order : FnScope N_in_order P_in_order (defScope (top 17)) := ⟨rfl, rfl, rfl, by decide +kernel, rfl, by decide +kernel, by decide +kernel⟩
theorem ok_in_order (T : Txt mg) (O : OddOk K) (F : AtL K mg base TT "in_order" 17) : Def P w K mg base CX0 2 "in_order" P_in_order (spD TT K F_in_order 1) := by
  have nd := sc_in_order.nd
  have hu65 : ∀ {k A}, Room k A → A.units + 65 < cLine := fun r => by have := r.un; omega
  refine def_ofL F sc_in_order (fun _ _ _ _ _ _ us hl => match us, hl with | [_], _ => rfl) (fun vs H Q E h => len_R h) (fun c Pt TB hmT hu A outer s H vs Q E hr h => ⟨_, (pss_cons (ps_set (i := 1) nd rfl (Or.inr rfl) pe_int)
    (pss_cons (ps_for PassesOwn.never rfl (pi_seq (pv 0)) (pg_name (i := 2) nd rfl (Or.inl rfl)) (pss_one (ps_set (i := 1) nd rfl (Or.inr rfl) (pe_op op_fdivW (pe_op op_mulW (pv 1) (pe_ix ix_seq (pv 2) pe_int (fun _ _ => rfl))) (pe_callBfun cr_gcd rfl T.gcd (pa_cons (pv 1) (pa_cons (pe_ix ix_seq (pv 2) pe_int (fun _ _ => rfl)) pa_nil)))))))
    (pss_one (ps_ret (pe_sortK (i := 1) rfl T.fr_sorted bb_sorted (pv 0) TB rfl hmT hu (hr.mono (by decide)) rfl (keyS_by (sc := defScope (top 17)) (by decide +kernel)) rfl rfl rfl rfl rfl (fun _ _ _ _ _ _ => rfl)))))), read_D ?_ h⟩)
  rintro S ds d ⟨l, rfl, hn, hz, hl, rfl⟩ _
  have fits : ∀ pre : List Rat, (∀ q ∈ pre, Sz 1000 q) → pre.length ≤ 900 → ((cm pre : Nat) : Int).natAbs < 2 ^ 901000 := fun pre h1 h2 => by
    rw [Int.natAbs_natCast]
    exact Nat.lt_of_lt_of_le (cm_lt h1) (Nat.pow_le_pow_right (by decide) (by omega))
  refine hasS_le (c1 := 0 + (0 + l.length * 0 + 0)) (hasS_seq_set has_int (hasS_seq (Γ1 := [some (tyD _ (.list (l.map encF))), some (tyD _ (.int (cm l : Nat))), none]) (A1 := [])
    (hasS_for l encF (fun pre => [some (tyD _ (.list (l.map encF))), some (tyD _ (.int (cm pre : Nat))), none]) (fun _ => []) (i_seq (has_var rfl) rfl) (.same (.same (.drop .nil))) rfl (fun _ => rfl) (fun pre x suf ex => ⟨_, _, g_name, ?_⟩) fun Γ' w => ⟨w, rfl⟩)
    (hasS_ret (has_sortF (has_var rfl) rfl (by have := cm_pos l; omega) (fun q hq => Int.ofNat_dvd.mpr (cm_dvd hq)) (fun q hq => ⟨?_, ?_⟩) hn (by omega))))) (by simp)
  · have hp : ∀ q ∈ pre, Sz 1000 q := fun q hq => hz q (by rw [ex]; simp [hq])
    have hx : Sz 1000 x := hz x (by rw [ex]; simp)
    have hpl : pre.length ≤ 900 := by rw [ex] at hl; simp at hl; omega
    have hg0 : 0 < Nat.gcd (cm pre) x.den := Nat.gcd_pos_of_pos_right _ x.den_pos
    refine hasS_0 (hasS_set (has_conv (has_ic ?_ (has_ic ?_ (has_var rfl) (has_ix (has_var rfl) has_int rfl rfl)) (has_gcd (has_var rfl) (has_ix (has_var rfl) has_int rfl rfl))) ?_) ⟨.same (.same (.drop .nil)), rfl⟩) rfl
    · rw [Int.natAbs_natCast, Int.natAbs_natCast]
      refine wide_div (by omega) (b := 1000) ?_ (by decide) (by decide)
      rw [Int.natAbs_natCast]
      exact Nat.lt_of_le_of_lt (Nat.le_of_dvd x.den_pos (Nat.gcd_dvd_right _ _)) hx.2
    · exact wide_mul (fits pre hp hpl) hx.dn (by decide) (by decide) (by decide)
    · rw [cm_snoc, Int.natAbs_natCast, Int.natAbs_natCast]
      unfold Nat.lcm
      congr 1
  · exact wide_div (by have := q.den_pos; omega) (hz q hq).dn (by decide) (by decide)
  · have h1 := fits l hz hl
    refine wide_mul (a := 1000) (b := 901000) (hz q hq).1 ?_ (by decide) (by decide) (by decide)
    have : (((cm l : Nat) : Int) / (q.den : Int)).natAbs ≤ ((cm l : Nat) : Int).natAbs := by
      rw [← Int.natCast_ediv, Int.natAbs_natCast, Int.natAbs_natCast]; exact Nat.div_le_self _ _
    omega
def F_each_once (ds : List PyData) (d : PyData) : Prop := ∃ l : List Rat, ds = [.list (l.map encF)] ∧ (∀ q ∈ l, Sz 1000 q) ∧ l.length ≤ 900 ∧ d = .list ((once l).map encF)
abbrev N_each_once : List Str := ["moments", "moment"]
abbrev P_each_once : List Str := ["moments"]
theorem sc_each_once : FnScope N_each_once P_each_once (defScope (top 28)) := ⟨rfl, rfl, rfl, by decide +kernel, rfl, by decide +kernel, by decide +kernel⟩
theorem ok_each_once (T : Txt mg) (O : OddOk K) (D_in_order : Def P w K mg base CX0 2 "in_order" P_in_order (spD TT K F_in_order 1)) (F : At K mg "each_once" 28) : Def P w K mg base CX0 3 "each_once" P_each_once (spD TT K F_each_once 1) := by
  have nd := sc_each_once.nd
  have hu65 : ∀ {k A}, Room k A → A.units + 65 < cLine := fun r => by have := r.un; omega
  refine def_of0 F sc_each_once (fun _ _ _ _ _ _ us hl => match us, hl with | [_], _ => rfl) (fun vs H Q E h => len_R h) (fun cdv A outer s H vs Q E hr h => ⟨_, (pss_one (ps_ret (pe_callD D_in_order hr (by decide) rfl pass0 (pa_cons (pe_callTy (call_list_dT rfl) (by rfl) T.fr_list bb_list (pa_cons (pe_dcT (own := [("moment", 1)]) (g := gName 1) (tk := (tVar 1)) (tv := (tC (.bl true))) (Room.u1 hr) rfl nd (pi_seq (pv 0)) (blkOk_by (N := N_each_once) (sc := defScope (top 28)) (own := [("moment", 1)]) (by decide +kernel)) (fun _ _ _ _ _ => (pg_name (i := 1) nd rfl (Or.inl rfl))) (fun _ _ _ _ _ => (pv 1)) (fun _ _ _ _ _ => pe_bl)) pa_nil)) pa_nil)))), read_D ?_ h⟩)
  rintro S ds d ⟨l, rfl, hz, hl, rfl⟩ _
  refine hasS_0 (hasS_ret (has_callR (has_consN (has_keys (has_var rfl) (by omega) (by show 1 < 2; decide)) has_nil) fun ds' ⟨d', r, e1, ⟨ks, e2, hn, hk⟩, e3⟩ => ?_)) rfl
  subst e1 e2 e3
  have he : once ks = once l := once_eq sorted_once fun x => by rw [mem_once, hk]
  refine ⟨rfl, rD (.list ((once l).map encF)), ⟨_, rfl, ks, rfl, hn, fun q hq => hz q ((hk q).mp hq), ?_, by rw [he]⟩, fun _ _ _ _ h => h⟩
  have : ks.length ≤ l.length := by
    have h1 : (once ks).length = ks.length := once_len hn
    rw [← h1, he]; exact length_once
  omega
def F_moments_of (ds : List PyData) (d : PyData) : Prop := ∃ us : List Cur, ds = [.list (us.map encU)] ∧ (∀ q ∈ momsOf us, Sz 1000 q) ∧ (momsOf us).length ≤ 900 ∧ d = .list ((once (momsOf us)).map encF)
abbrev N_moments_of : List Str := ["curves", "curve", "moment", "worth"]
abbrev P_moments_of : List Str := ["curves"]
theorem sc_moments_of : FnScope N_moments_of P_moments_of (defScope (top 29)) := ⟨rfl, rfl, rfl, by decide +kernel, rfl, by decide +kernel, by decide +kernel⟩
theorem ok_moments_of (T : Txt mg) (O : OddOk K) (D_each_once : Def P w K mg base CX0 3 "each_once" P_each_once (spD TT K F_each_once 1)) (F : At K mg "moments_of" 29) : Def P w K mg base CX0 4 "moments_of" P_moments_of (spD TT K F_moments_of 1) := by
  have nd := sc_moments_of.nd
  have hu65 : ∀ {k A}, Room k A → A.units + 65 < cLine := fun r => by have := r.un; omega
  refine def_of0 F sc_moments_of (fun _ _ _ _ _ _ us hl => match us, hl with | [_], _ => rfl) (fun vs H Q E h => len_R h) (fun cdv A outer s H vs Q E hr h => ⟨_, (pss_one (ps_ret (pe_callD D_each_once hr (by decide) rfl pass0 (pa_cons (pe_lc2 (own := [("curve", 1), ("moment", 2), ("worth", 3)]) (g := (gName 1)) (tt := tYes) (wi1 := (iSeq K (tOp (rIx K) (tVar 1) (tC (.int 0))))) (g1 := (gTup K 2 (gCons (gName 2) (gCons (gName 3) gNil)))) (tt1 := tYes) (te := (tVar 2)) (vs1 := [2, 3]) rfl nd (pi_seq (pv 0)) (blkOk_by (N := N_moments_of) (sc := defScope (top 29)) (own := [("curve", 1), ("moment", 2), ("worth", 3)]) (by decide +kernel)) (by decide) (fun _ _ _ _ _ => (pg_name (i := 1) nd rfl (Or.inl rfl))) (fun _ _ _ _ _ => pts_nil) (fun _ _ _ _ _ => (pi_seq (pe_ix ix_seq (pv 1) pe_int (fun _ _ => rfl)))) (fun _ _ _ _ _ => (pg_tup rfl (pgs_cons (pg_name (i := 2) nd rfl (Or.inl rfl)) (pgs_cons (pg_name (i := 3) nd rfl (Or.inl rfl)) pgs_nil)))) (fun _ _ _ _ _ => pts_nil) (fun _ _ _ _ _ => (pv 2))) pa_nil)))), read_D ?_ h⟩)
  rintro S ds d ⟨us, rfl, hz, hl, rfl⟩ _
  have e : (us.flatMap fun u => u.1).map (fun k : Cor => encF k.1) = (momsOf us).map encF := by
    unfold momsOf mom
    rw [List.map_flatMap, List.map_flatMap]
    simp [List.map_map, Function.comp_def]
  have el : (us.flatMap fun u => u.1).length = (momsOf us).length := by
    have := congrArg List.length e
    simpa using this
  refine hasS_0 (hasS_ret (has_call (has_cons (has_conv (has_lc2 us encU (fun u => u.1) encK (fun k => encF k.1) (i_seq (has_var rfl) rfl) (by omega) fun u hu => ⟨_, _, g_name, by simp, i_seq (has_ix (has_var rfl) has_int rfl rfl) rfl, fun k hk => ⟨_, _, g_tup (gs_cons g_name (gs_cons g_name gs_nil)) rfl, by simp, has_var rfl⟩⟩) (by rw [e])) has_nil) rfl ⟨_, rfl, hz, hl, rfl⟩)) rfl
end
end Q6
end
section
set_option maxHeartbeats 4000000
set_option exponentiation.threshold 20000
namespace Q6
open PySem PySem.Spec PyProof.Rows L2 LamX RZ Qk
/-- a curve with which one may reckon -/
structure Fin (u : Cur) : Prop where
  crv : Crv u.1
  sz : SzU u
  len : u.1.length ≤ 450
  at_ : ∀ t, 0 ≤ t → Sz 400 t → Sz 900 (vl u t) ∧ Sz 900 (sl u t)
  mom : ∀ m ∈ Qk.mom u.1, Sz 400 m
theorem Fin.worth {u : Cur} {t : Rat} (f : Fin u) (h0 : 0 ≤ t) (ht : Sz 400 t) : F_worth_of [encU u, encF t] (encF (vl u t)) := ⟨u, t, rfl, f.crv, f.sz, ht.mono (by decide), h0, by have := f.len; omega, rfl⟩
theorem Fin.slope {u : Cur} {t : Rat} (f : Fin u) (h0 : 0 ≤ t) (ht : Sz 400 t) : F_slope_from [encU u, encF t] (encF (sl u t)) := ⟨u, t, rfl, f.crv, f.sz, ht.mono (by decide), h0, by have := f.len; omega, rfl⟩
theorem mul_sign (p q : Rat) : (p.num * q.num ≤ 0) ↔ p * q ≤ 0 := by
  have hp : (0 : Rat) < ((p.den : Int) : Rat) := by exact_mod_cast den_pos p
  have hq : (0 : Rat) < ((q.den : Int) : Rat) := by exact_mod_cast den_pos q
  have e1 := rat_eq p
  have e2 := rat_eq q
  have hd : (0 : Rat) < ((p.den : Int) : Rat) * ((q.den : Int) : Rat) := Rat.mul_pos hp hq
  have e : ((p.num * q.num : Int) : Rat) = p * q * (((p.den : Int) : Rat) * ((q.den : Int) : Rat)) := by
    rw [Rat.intCast_mul]
    have h1 : (p.num : Rat) = p * ((p.den : Int) : Rat) := by grind
    have h2 : (q.num : Rat) = q * ((q.den : Int) : Rat) := by grind
    rw [h1, h2]; grind
  rw [← Rat.intCast_le_intCast, e]
  constructor
  · intro h
    refine Rat.not_lt.mp fun hpos => ?_
    have := Rat.mul_pos hpos hd
    grind
  · intro h
    have := Rat.mul_le_mul_of_nonneg_right h (Rat.le_of_lt hd)
    grind
section
variable {P : Program} {w : World} {K : PySem.W.Frag} {mg : Str → Option Value} {base : Heap} {TT : List (Addr × Str)}
def oF : Option Rat → PyData
  | none => .none
  | some x => encF x
def F_meeting (ds : List PyData) (d : PyData) : Prop := ∃ (a b : Cur) (m : Rat), ds = [encU a, encU b, encF m] ∧ Fin a ∧ Fin b ∧ 0 ≤ m ∧ Sz 400 m ∧ d = oF (meet a b m)
abbrev N_meeting : List Str := ["one", "other", "begin", "apart", "nearer"]
abbrev P_meeting : List Str := ["one", "other", "begin"]
theorem sc_meeting : FnScope N_meeting P_meeting (defScope (top 30)) := ⟨rfl, rfl, rfl, by decide +kernel, rfl, by decide +kernel, by decide +kernel⟩
theorem ok_meeting (T : Txt mg) (O : OddOk K) (D_less : Def P w K mg base CX0 2 "less" P_less (spD TT K F_less 2)) (D_plus : Def P w K mg base CX0 2 "plus" P_plus (spD TT K F_plus 2)) (D_worth_of : Def P w K mg base CX0 5 "worth_of" P_worth_of (spD TT K F_worth_of 2)) (D_slope_from : Def P w K mg base CX0 5 "slope_from" P_slope_from (spD TT K F_slope_from 2)) (D_parted : Def P w K mg base CX0 2 "parted" P_parted (spD TT K F_parted 2)) (F : At K mg "meeting" 30) : Def P w K mg base CX0 6 "meeting" P_meeting (spD TT K F_meeting 3) := by
  have nd := sc_meeting.nd
  have hu65 : ∀ {k A}, Room k A → A.units + 65 < cLine := fun r => by have := r.un; omega
  refine def_of0 F sc_meeting (fun _ _ _ _ _ _ us hl => match us, hl with | [_, _, _], _ => rfl) (fun vs H Q E h => len_R h) (fun cdv A outer s H vs Q E hr h => ⟨_, (pss_cons (ps_set (i := 3) nd rfl (Or.inl rfl) (pe_callD D_less hr (by decide) rfl pass0 (pa_cons (pe_callD D_worth_of hr (by decide) rfl pass0 (pa_cons (pv 1) (pa_cons (pv 2) pa_nil))) (pa_cons (pe_callD D_worth_of hr (by decide) rfl pass0 (pa_cons (pv 0) (pa_cons (pv 2) pa_nil))) pa_nil))))
    (pss_cons (ps_set (i := 4) nd rfl (Or.inl rfl) (pe_callD D_less hr (by decide) rfl pass0 (pa_cons (pe_callD D_slope_from hr (by decide) rfl pass0 (pa_cons (pv 0) (pa_cons (pv 2) pa_nil))) (pa_cons (pe_callD D_slope_from hr (by decide) rfl pass0 (pa_cons (pv 1) (pa_cons (pv 2) pa_nil))) pa_nil))))
    (pss_cons (ps_if (pt_cmpR op_le (pe_op op_mulW (pe_ix ix_seq (pv 3) pe_int (fun _ _ => rfl)) (pe_ix ix_seq (pv 4) pe_int (fun _ _ => rfl))) pe_int (nomark _)) (pss_one (ps_ret pe_non)) pss_nil)
    (pss_one (ps_ret (pe_callD D_plus hr (by decide) rfl pass0 (pa_cons (pv 2) (pa_cons (pe_callD D_parted hr (by decide) rfl pass0 (pa_cons (pv 3) (pa_cons (pv 4) pa_nil))) pa_nil)))))))), read_D ?_ h⟩)
  rintro S ds d ⟨a, b, m, rfl, ha, hb, h0, hm, rfl⟩ _
  obtain ⟨va, sa⟩ := ha.at_ m h0 hm
  obtain ⟨vb, sb⟩ := hb.at_ m h0 hm
  have args : ∀ {n : Nat} {Γ : Cxt}, True := fun {_ _} => trivial
  refine hasS_0 (hasS_seq_set (has_call (has_cons (has_call (has_cons (has_var rfl) (has_cons (has_var rfl) has_nil)) rfl (hb.worth h0 hm)) (has_cons (has_call (has_cons (has_var rfl) (has_cons (has_var rfl) has_nil)) rfl (ha.worth h0 hm)) has_nil)) rfl ⟨_, _, rfl, fit vb va (by decide), rfl⟩)
    (hasS_seq_set (has_call (has_cons (has_call (has_cons (has_var rfl) (has_cons (has_var rfl) has_nil)) rfl (ha.slope h0 hm)) (has_cons (has_call (has_cons (has_var rfl) (has_cons (has_var rfl) has_nil)) rfl (hb.slope h0 hm)) has_nil)) rfl ⟨_, _, rfl, fit sa sb (by decide), rfl⟩)
    (hasS_ifret (c2 := 0) (c3 := 0) (hast_test (has_b2 (has_ic (fit (vb.sub va) (sa.sub sb) (by decide)).nn (has_ix (has_var rfl) has_int rfl rfl) (has_ix (has_var rfl) has_int rfl rfl)) has_int)) (fun hq => ?_) fun hq => ?_))) rfl
  · have hq : (vl b m - vl a m) * (sl a m - sl b m) ≤ 0 := (mul_sign _ _).mp (of_decide_eq_true hq)
    unfold meet
    rw [if_pos hq]
    exact hasS_ret has_non
  · have hq : ¬ (vl b m - vl a m) * (sl a m - sl b m) ≤ 0 := fun z => by
      have := (mul_sign _ _).mpr z
      exact absurd (decide_eq_true this) (by rw [hq]; exact Bool.false_ne_true)
    unfold meet
    rw [if_neg hq]
    exact hasS_0 (hasS_ret (has_call (has_cons (has_var rfl) (has_cons (has_call (has_cons (has_var rfl) (has_cons (has_var rfl) has_nil)) rfl ⟨_, _, rfl, fit (vb.sub va) (sa.sub sb) (by decide), fun z => hq (by rw [z]; grind), rfl⟩) has_nil)) rfl ⟨_, _, rfl, fit hm ((vb.sub va).div (sa.sub sb)) (by decide), rfl⟩)) rfl
/-- what one turn of the joint moments' loop finds -/
def tst (a b : Cur) (l : List Rat) (p : Rat × Nat) : List Rat := match meet a b p.1 with
  | none => []
  | some x => match l[p.2 + 1]? with
    | none => [x]
    | some y => if x < y then [x] else []
theorem tst_meets (a b : Cur) : ∀ (l r : List Rat) (n : Nat), r.drop n = l → (l.zipIdx n).flatMap (tst a b r) = meets a b l
  | [], _, _, _ => rfl
  | [m], r, n, h => by
    have e : r[n + 1]? = none := by
      have h2 := congrArg List.length h
      simp at h2
      exact List.getElem?_eq_none (by omega)
    simp only [List.zipIdx_cons, List.zipIdx_nil, List.flatMap_cons, List.flatMap_nil, List.append_nil, meets, tst, e]
    cases meet a b m <;> rfl
  | m :: m' :: l, r, n, h => by
    have h1 : r.drop (n + 1) = m' :: l := by
      have := congrArg (List.drop 1) h
      rw [List.drop_drop] at this
      simpa [Nat.add_comm] using this
    have e : r[n + 1]? = some m' := by
      have := congrArg (fun z : List Rat => z[0]?) h1
      simpa [List.getElem?_drop] using this
    have ih := tst_meets a b (m' :: l) r (n + 1) h1
    rw [List.zipIdx_cons, List.flatMap_cons, ih]
    simp only [meets, tst, e]
    cases meet a b m <;> rfl
theorem momsOf2 (a b : Cur) : momsOf [a, b] = Qk.mom a.1 ++ Qk.mom b.1 := by simp [momsOf]
def F_joint_moments (ds : List PyData) (d : PyData) : Prop := ∃ (a b : Cur), ds = [encU a, encU b] ∧ Fin a ∧ Fin b ∧ a.1.length + b.1.length ≤ 450 ∧ (∀ x ∈ meets a b (joint0 a b), Sz 400 x) ∧ d = .list ((joint a b).map encF)
abbrev N_joint_moments : List Str := ["one", "other", "moments", "found", "at", "begin", "met"]
abbrev P_joint_moments : List Str := ["one", "other"]
theorem sc_joint_moments : FnScope N_joint_moments P_joint_moments (defScope (top 31)) := ⟨rfl, rfl, rfl, by decide +kernel, rfl, by decide +kernel, by decide +kernel⟩
theorem ok_joint_moments (T : Txt mg) (O : OddOk K) (D_moments_of : Def P w K mg base CX0 4 "moments_of" P_moments_of (spD TT K F_moments_of 1)) (D_each_once : Def P w K mg base CX0 3 "each_once" P_each_once (spD TT K F_each_once 1)) (D_meeting : Def P w K mg base CX0 6 "meeting" P_meeting (spD TT K F_meeting 3)) (D_is_below : Def P w K mg base CX0 1 "is_below" P_is_below (spD TT K F_is_below 2)) (F : At K mg "joint_moments" 31) : Def P w K mg base CX0 7 "joint_moments" P_joint_moments (spD TT K F_joint_moments 2) := by
  have nd := sc_joint_moments.nd
  have hu65 : ∀ {k A}, Room k A → A.units + 65 < cLine := fun r => by have := r.un; omega
  refine def_of0 F sc_joint_moments (fun _ _ _ _ _ _ us hl => match us, hl with | [_, _], _ => rfl) (fun vs H Q E h => len_R h) (fun cdv A outer s H vs Q E hr h => ⟨_, (pss_cons (ps_set (i := 2) nd rfl (Or.inl rfl) (pe_callD D_moments_of hr (by decide) rfl pass0 (pa_cons (pe_lst (pa_cons (pv 0) (pa_cons (pv 1) pa_nil))) pa_nil)))
    (pss_cons (ps_set (i := 3) nd rfl (Or.inl rfl) (pe_callTy call_list_of (by rfl) T.fr_list bb_list (pa_cons (pv 2) pa_nil)))
    (pss_cons (ps_for PassesOwn.never rfl (pi_enum rfl T.fr_enumerate (pa_cons (pv 2) pa_nil)) (pg_tup rfl (pgs_cons (pg_name (i := 4) nd rfl (Or.inl rfl)) (pgs_cons (pg_name (i := 5) nd rfl (Or.inl rfl)) pgs_nil))) (pss_cons (ps_set (i := 6) nd rfl (Or.inl rfl) (pe_callD D_meeting hr (by decide) rfl pass0 (pa_cons (pv 0) (pa_cons (pv 1) (pa_cons (pv 5) pa_nil)))))
    (pss_one (ps_if (PW.pt (pw_and (pt_cmp (pc_notN (pv 6)) rfl) (pw_and1 (PW.pt (pw_or (pt_cmpR (op_eqD (Room.eq hr)) (pe_op op_add (pv 4) pe_int) (pe_callB call_len_seq (by rfl) T.fr_len bb_len (pa_cons (pv 2) pa_nil)) (nomark _)) (pw_or1 (pt_val (pe_callD D_is_below hr (by decide) rfl pass0 (pa_cons (pv 6) (pa_cons (pe_ix ix_seq (pv 2) (pe_op op_add (pv 4) pe_int) (fun _ _ => rfl)) pa_nil)))))))))) (pss_one (ps_expr (pe_bm PySem.F.plainAttrs_list PySem.F.slot_list_append PySem.F.type_list_append mt_append (pv 3) (pa_cons (pv 6) pa_nil)))) pss_nil))))
    (pss_one (ps_ret (pe_callD D_each_once hr (by decide) rfl pass0 (pa_cons (pv 3) pa_nil))))))), read_D ?_ h⟩)
  rintro S ds d ⟨a, b, rfl, ha, hb, hl, hx, rfl⟩ _
  have hmom : ∀ q ∈ momsOf [a, b], Sz 400 q := fun q hq => by
    rw [momsOf2] at hq
    rcases List.mem_append.mp hq with h | h
    · exact ha.mom q h
    · exact hb.mom q h
  have hj : once (momsOf [a, b]) = joint0 a b := by rw [momsOf2]; rfl
  have hjs : ∀ q ∈ joint0 a b, Sz 400 q := fun q hq => hmom q (mem_once.mp (by rw [hj]; exact hq))
  have hjl : (joint0 a b).length ≤ 450 := by
    have h1 := length_once (l := Qk.mom a.1 ++ Qk.mom b.1)
    unfold joint0
    simp at h1 ⊢; omega
  have hml : (momsOf [a, b]).length ≤ 900 := by rw [momsOf2]; simp; omega
  have hnn : ∀ q ∈ joint0 a b, 0 ≤ q := joint0_nn ha.crv hb.crv
  have hmt : ((joint0 a b).zipIdx).flatMap (tst a b (joint0 a b)) = meets a b (joint0 a b) := tst_meets a b _ _ 0 rfl
  have tl : ∀ p, (tst a b (joint0 a b) p).length ≤ 1 := fun p => by
    unfold tst
    split
    · simp
    · split
      · simp
      · split <;> simp
  have fl : ∀ ps : List (Rat × Nat), (ps.flatMap (tst a b (joint0 a b))).length ≤ ps.length := fun ps => by
    induction ps with
    | nil => simp
    | cons p ps ih => rw [List.flatMap_cons, List.length_append, List.length_cons]; have := tl p; omega
  generalize hJ : joint0 a b = J at *
  refine hasS_0 (c := 0 + (0 + (0 + J.zipIdx.length * 0 + 0))) (hasS_seq_set (has_conv (has_call (has_cons (has_lst (has_cons (has_var rfl) (has_cons (has_var rfl) has_nil)) (by simp)) has_nil) rfl ⟨[a, b], rfl, fun q hq => (hmom q hq).mono (by decide), hml, rfl⟩) (by rw [hj]))
    (hasS_seq_own (f_list (has_var rfl) rfl) fun l es e => ?_)) (by simp)
  subst e
  refine hasS_seq (Γ1 := [some (tyD _ (encU a)), some (tyD _ (encU b)), some (tyD _ (.list (J.map encF))), some (tyV (.ref l)), none, none, none]) (A1 := [(l, (J ++ J.zipIdx.flatMap (tst a b J)).map encF)])
    (hasS_for J.zipIdx (fun p => .tuple [.int (p.2 : Nat), encF p.1]) (fun _ => [some (tyD _ (encU a)), some (tyD _ (encU b)), some (tyD _ (.list (J.map encF))), some (tyV (.ref l)), none, none, none]) (fun pre => [(l, (J ++ pre.flatMap (tst a b J)).map encF)])
      (i_conv (i_enum (has_var rfl)) (by rw [List.zipIdx_map, List.map_map]; rfl)) (.same (.same (.same (.same (.drop (.drop (.drop .nil))))))) (by simp) (fun _ => rfl) (fun pre p suf ex => ⟨_, _, g_tup (gs_cons g_name (gs_cons g_name gs_nil)) rfl, ?_⟩) fun Γ' w => ⟨w, rfl⟩)
    (hasS_drop (n := 3) rfl (hasS_0 (hasS_ret (has_call (has_cons (has_var rfl) has_nil) rfl ⟨_, rfl, fun q hq => ?_, ?_, ?_⟩)) rfl))
  · have hp : p ∈ J.zipIdx := by rw [ex]; simp
    have hm : p.1 ∈ J := List.fst_mem_of_mem_zipIdx hp
    have hpi : J[p.2]? = some p.1 := by
      obtain ⟨n, hn⟩ := List.mem_iff_getElem?.mp hp
      rw [List.getElem?_zipIdx] at hn
      cases q : J[n]? with
      | none => rw [q] at hn; cases hn
      | some k => rw [q] at hn; cases hn; simpa using q
    have hlen : (J ++ pre.flatMap (tst a b J)).length < 100000 := by
      have h1 := fl pre
      have h2 := congrArg List.length ex
      simp at h2
      rw [List.length_append]; omega
    have m0 := hjs p.1 hm
    have step : (J ++ (pre ++ [p]).flatMap (tst a b J)).map encF = (J ++ pre.flatMap (tst a b J)).map encF ++ (tst a b J p).map encF := by simp [List.flatMap_append]
    refine hasS_0 (c := 0 + 0) (hasS_seq_set (has_call (has_cons (has_var rfl) (has_cons (has_var rfl) (has_cons (has_var rfl) has_nil))) rfl ⟨a, b, p.1, rfl, ha, hb, hnn _ hm, m0, rfl⟩) ?_) rfl
    cases hmeet : meet a b p.1 with
    | none =>
      have e0 : tst a b J p = [] := by unfold tst; rw [hmeet]
      refine hasS_0 (hasS_if (c2 := 0) (c3 := 0) (hast_and (b' := false) (c2 := 0) (hast_B (has_notN (has_var rfl))) fun hq => ?_) (fun hq => ?_) fun hq => hasS_next ⟨.same (.same (.same (.same (.drop (.drop (.drop .nil)))))), by rw [step, e0]; simp⟩) rfl
      · cases hq
      · simp at hq
    | some x =>
      cases hnx : J[p.2 + 1]? with
      | none =>
        have e0 : tst a b J p = [x] := by unfold tst; rw [hmeet]; simp only [hnx]
        have hend : p.2 + 1 = J.length := by
          have h1 := List.getElem?_eq_none_iff.mp hnx
          have h2 := (List.getElem?_eq_some_iff.mp hpi).1
          omega
        refine hasS_0 (hasS_if (c2 := 0) (c3 := 0) (hast_and (hast_B (has_notN (has_var rfl))) fun _ => hast_or (b' := false) (c2 := 0) (hast_test (has_eq (has_i2 (has_var rfl) has_int) (has_len (has_var rfl) rfl) eqOk_int eqOk_int)) fun hq => ?_) (fun hq => hasS_append rfl (has_var rfl) (by simpa using hlen) rfl ⟨.same (.same (.same (.same (.drop (.drop (.drop .nil)))))), by rw [step, e0]; simp [oF]⟩) fun hq => ?_) rfl
        · have : (((p.2 : Nat) : Int) + 1 == (((J.map encF).length : Nat) : Int)) = true := by rw [List.length_map, ← hend]; simp
          rw [show PyData.eqv (.int (((p.2 : Nat) : Int) + 1)) (.int (((J.map encF).length : Nat) : Int)) = (((p.2 : Nat) : Int) + 1 == (((J.map encF).length : Nat) : Int)) from rfl, this] at hq
          cases hq
        · have : (((p.2 : Nat) : Int) + 1 == (((J.map encF).length : Nat) : Int)) = true := by rw [List.length_map, ← hend]; simp
          rw [show PyData.eqv (.int (((p.2 : Nat) : Int) + 1)) (.int (((J.map encF).length : Nat) : Int)) = (((p.2 : Nat) : Int) + 1 == (((J.map encF).length : Nat) : Int)) from rfl, this] at hq
          cases hq
      | some y =>
        have e0 : tst a b J p = if x < y then [x] else [] := by unfold tst; rw [hmeet]; simp only [hnx]
        have hy : y ∈ J := List.mem_of_getElem? hnx
        have hlt := (List.getElem?_eq_some_iff.mp hnx).1
        have hxs : Sz 4005 x := by
          obtain ⟨va, sa⟩ := ha.at_ p.1 (hnn _ hm) m0
          obtain ⟨vb, sb⟩ := hb.at_ p.1 (hnn _ hm) m0
          unfold meet at hmeet
          split at hmeet
          · cases hmeet
          · rw [← Option.some.inj hmeet]
            exact (m0.add ((vb.sub va).div (sa.sub sb))).mono (by decide)
        have hne : PyData.eqv (.int (((p.2 : Nat) : Int) + 1)) (.int (((J.map encF).length : Nat) : Int)) = false := by
          show (((p.2 : Nat) : Int) + 1 == (((J.map encF).length : Nat) : Int)) = false
          rw [List.length_map]
          simp; omega
        refine hasS_0 (hasS_if (c2 := 0) (c3 := 0) (hast_and (hast_B (has_notN (has_var rfl))) fun _ => hast_or (hast_test (has_eq (has_i2 (has_var rfl) has_int) (has_len (has_var rfl) rfl) eqOk_int eqOk_int)) fun hq => hast_B (has_call (has_cons (has_var rfl) (has_cons (has_ix (has_var rfl) (has_i2 (has_var rfl) has_int) rfl (atI_nat (j := p.2 + 1) (by rw [List.getElem?_map, hnx]; rfl))) has_nil)) rfl (below_F (fit hxs (hjs y hy) (by decide)))))
          (fun hq => hasS_append rfl (has_var rfl) (by simpa using hlen) rfl ⟨.same (.same (.same (.same (.drop (.drop (.drop .nil)))))), ?_⟩) fun hq => hasS_next ⟨.same (.same (.same (.same (.drop (.drop (.drop .nil)))))), ?_⟩) rfl
        · rw [hne] at hq
          have hlt : x < y := by simpa [isNone, oF, encF] using hq
          rw [step, e0, if_pos hlt]; simp [oF]
        · rw [hne] at hq
          have hlt : ¬ x < y := by simpa [isNone, oF, encF] using hq
          rw [step, e0, if_neg hlt]; simp
  · rw [hmt] at hq
    rcases List.mem_append.mp hq with h | h
    · exact (hjs q h).mono (by decide)
    · exact (hx q h).mono (by decide)
  · have := fl J.zipIdx
    simp at this ⊢; omega
  · rw [hmt, ← hJ]; rfl
end
end Q6
end
section
set_option maxHeartbeats 4000000
set_option exponentiation.threshold 20000
namespace Q6
open PySem PySem.Spec PyProof.Rows L2 LamX RZ Qk
theorem Fin.ne {u : Cur} (f : Fin u) : u.1 ≠ [] := by
  obtain ⟨w, r, e⟩ := f.crv.zero
  rw [e]; simp
theorem eqOk_bool {b : Bool} : eqOk (.bool b) = true := by simp [eqOk, noDict, SeqAt.shaped, PyData.canLay0, PyData.depth]
theorem encC_snoc (c : List Cor) (k : Cor) : (c ++ [k]).map encK = c.map encK ++ [encK k] := by simp
section
variable {P : Program} {w : World} {K : PySem.W.Frag} {mg : Str → Option Value} {base : Heap} {TT : List (Addr × Str)}
def F_is_lower (ds : List PyData) (d : PyData) : Prop := ∃ (a b : Cur) (m : Rat), ds = [encU a, encU b, encF m] ∧ Fin a ∧ Fin b ∧ 0 ≤ m ∧ Sz 400 m ∧ d = .bool (low a b m)
abbrev N_is_lower : List Str := ["one", "other", "moment", "mine", "theirs"]
abbrev P_is_lower : List Str := ["one", "other", "moment"]
theorem sc_is_lower : FnScope N_is_lower P_is_lower (defScope (top 32)) := ⟨rfl, rfl, rfl, by decide +kernel, rfl, by decide +kernel, by decide +kernel⟩
theorem ok_is_lower (T : Txt mg) (O : OddOk K) (D_worth_of : Def P w K mg base CX0 5 "worth_of" P_worth_of (spD TT K F_worth_of 2)) (D_is_below : Def P w K mg base CX0 1 "is_below" P_is_below (spD TT K F_is_below 2)) (D_slope_from : Def P w K mg base CX0 5 "slope_from" P_slope_from (spD TT K F_slope_from 2)) (F : At K mg "is_lower" 32) : Def P w K mg base CX0 6 "is_lower" P_is_lower (spD TT K F_is_lower 3) := by
  have nd := sc_is_lower.nd
  have hu65 : ∀ {k A}, Room k A → A.units + 65 < cLine := fun r => by have := r.un; omega
  refine def_of0 F sc_is_lower (fun _ _ _ _ _ _ us hl => match us, hl with | [_, _, _], _ => rfl) (fun vs H Q E h => len_R h) (fun cdv A outer s H vs Q E hr h => ⟨_, (pss_cons (ps_par (i := 3) (j := 4) (by rfl) nd rfl rfl (by decide) rfl rfl (pa_cons (pe_callD D_worth_of hr (by decide) rfl pass0 (pa_cons (pv 0) (pa_cons (pv 2) pa_nil))) (pa_cons (pe_callD D_worth_of hr (by decide) rfl pass0 (pa_cons (pv 1) (pa_cons (pv 2) pa_nil))) pa_nil)) (by rfl))
    (pss_cons (ps_if (pt_cmpR (op_neD (Room.eq hr)) (pv 3) (pv 4) (nomark _)) (pss_one (ps_ret (pe_callD D_is_below hr (by decide) rfl pass0 (pa_cons (pv 3) (pa_cons (pv 4) pa_nil))))) pss_nil)
    (pss_one (ps_ret (pe_not (pe_callD D_is_below hr (by decide) rfl pass0 (pa_cons (pe_callD D_slope_from hr (by decide) rfl pass0 (pa_cons (pv 1) (pa_cons (pv 2) pa_nil))) (pa_cons (pe_callD D_slope_from hr (by decide) rfl pass0 (pa_cons (pv 0) (pa_cons (pv 2) pa_nil))) pa_nil)))))))), read_D ?_ h⟩)
  rintro S ds d ⟨a, b, m, rfl, ha, hb, h0, hm, rfl⟩ _
  obtain ⟨va, sa⟩ := ha.at_ m h0 hm
  obtain ⟨vb, sb⟩ := hb.at_ m h0 hm
  refine hasS_0 (hasS_seq_par (has_cons (has_call (has_cons (has_var rfl) (has_cons (has_var rfl) has_nil)) rfl (ha.worth h0 hm)) (has_cons (has_call (has_cons (has_var rfl) (has_cons (has_var rfl) has_nil)) rfl (hb.worth h0 hm)) has_nil))
    (hasS_ifret (c2 := 0) (c3 := 0) (hast_test (has_ne (has_var rfl) (has_var rfl) (eqOk_encF _) (eqOk_encF _))) (fun hq => ?_) fun hq => ?_)) rfl
  · rw [eqv_encF] at hq
    have hq : vl a m ≠ vl b m := by simpa using hq
    unfold low
    rw [if_pos hq]
    exact hasS_0 (hasS_ret (has_call (has_cons (has_var rfl) (has_cons (has_var rfl) has_nil)) rfl (below_F (fit va vb (by decide))))) rfl
  · rw [eqv_encF] at hq
    have hq : ¬ vl a m ≠ vl b m := by simpa using hq
    unfold low
    rw [if_neg hq]
    exact hasS_0 (hasS_ret (has_notV (has_call (has_cons (has_call (has_cons (has_var rfl) (has_cons (has_var rfl) has_nil)) rfl (hb.slope h0 hm)) (has_cons (has_call (has_cons (has_var rfl) (has_cons (has_var rfl) has_nil)) rfl (ha.slope h0 hm)) has_nil)) rfl (below_F (fit sb sa (by decide)))))) rfl
/-- the slope so far, in chosen's loop -/
def slA (a b : Cur) (w : Bool) (l : List Rat) : Rat := match l.getLast? with
  | some t => sl (pick a b w t) t
  | none => a.2
def F_chosen (ds : List PyData) (R : Res) : Prop := ∃ (a b : Cur) (w : Bool), ds = [encU a, encU b, .bool w] ∧ Fin a ∧ Fin b ∧ a.1.length + b.1.length ≤ 450 ∧ (∀ x ∈ meets a b (joint0 a b), Sz 400 x) ∧ R = rU ((chosen a b w).1.map encK) (encF (chosen a b w).2)
abbrev N_chosen : List Str := ["one", "other", "wants_less", "corners", "slope", "moment", "some"]
abbrev P_chosen : List Str := ["one", "other", "wants_less"]
theorem sc_chosen : FnScope N_chosen P_chosen (defScope (top 33)) := ⟨rfl, rfl, rfl, by decide +kernel, rfl, by decide +kernel, by decide +kernel⟩
theorem ok_chosen (T : Txt mg) (O : OddOk K) (D_joint_moments : Def P w K mg base CX0 7 "joint_moments" P_joint_moments (spD TT K F_joint_moments 2)) (D_normal : Def P w K mg base CX0 5 "normal" P_normal (spR TT K 0 F_normal 2)) (D_slope_from : Def P w K mg base CX0 5 "slope_from" P_slope_from (spD TT K F_slope_from 2)) (D_is_lower : Def P w K mg base CX0 6 "is_lower" P_is_lower (spD TT K F_is_lower 3)) (D_worth_of : Def P w K mg base CX0 5 "worth_of" P_worth_of (spD TT K F_worth_of 2)) (F : At K mg "chosen" 33) : Def P w K mg base CX0 8 "chosen" P_chosen (spR TT K 0 F_chosen 3) := by
  have nd := sc_chosen.nd
  have hu65 : ∀ {k A}, Room k A → A.units + 65 < cLine := fun r => by have := r.un; omega
  refine def_of0 F sc_chosen (fun _ _ _ _ _ _ us hl => match us, hl with | [_, _, _], _ => rfl) (fun vs H Q E h => len_R h) (fun cdv A outer s H vs Q E hr h => ⟨_, (pss_cons (ps_par (i := 3) (j := 4) (by rfl) nd rfl rfl (by decide) rfl rfl (pa_cons (pe_lst pa_nil) (pa_cons (pe_ix ix_seq (pv 0) pe_int (fun _ _ => rfl)) pa_nil)) (by rfl))
    (pss_cons (ps_for PassesOwn.never rfl (pi_seq (pe_callD D_joint_moments hr (by decide) rfl pass0 (pa_cons (pv 0) (pa_cons (pv 1) pa_nil)))) (pg_name (i := 5) nd rfl (Or.inl rfl)) (pss_cons (ps_set (i := 6) nd rfl (Or.inl rfl) (pe_ifExp (pt_cmpR (op_eqD (Room.eq hr)) (pe_callD D_is_lower hr (by decide) rfl pass0 (pa_cons (pv 0) (pa_cons (pv 1) (pa_cons (pv 5) pa_nil)))) (pv 2) (nomark _)) (pv 0) (pv 1)))
    (pss_cons (ps_expr (pe_bm PySem.F.plainAttrs_list PySem.F.slot_list_append PySem.F.type_list_append mt_append (pv 3) (pa_cons (pe_tup (pa_cons (pv 5) (pa_cons (pe_callD D_worth_of hr (by decide) rfl pass0 (pa_cons (pv 6) (pa_cons (pv 5) pa_nil))) pa_nil))) pa_nil)))
    (pss_one (ps_set (i := 4) nd rfl (Or.inl rfl) (pe_callD D_slope_from hr (by decide) rfl pass0 (pa_cons (pv 6) (pa_cons (pv 5) pa_nil))))))))
    (pss_one (ps_ret (pe_callD D_normal hr (by decide) rfl pass0 (pa_cons (pv 3) (pa_cons (pv 4) pa_nil))))))), read_R ?_ h⟩)
  rintro S ds R ⟨a, b, w, rfl, ha, hb, hl, hx, rfl⟩ _
  have hjs : ∀ q ∈ joint a b, Sz 400 q ∧ 0 ≤ q := fun q hq => by
    refine ⟨?_, joint_nn ha.crv hb.crv q hq⟩
    rcases mem_joint.mp hq with h | h
    · rcases List.mem_append.mp (mem_once.mp h) with h | h
      · exact ha.mom q h
      · exact hb.mom q h
    · exact hx q h
  have hpf : ∀ t, Fin (pick a b w t) := fun t => by
    rcases pick_cases a b w t with e | e <;> rw [e] <;> assumption
  have hjl : (joint a b).length ≤ 50000 := by
    have h1 := length_once (l := joint0 a b ++ meets a b (joint0 a b))
    have h2 := length_once (l := Qk.mom a.1 ++ Qk.mom b.1)
    have h3 : ∀ l, (meets a b l).length ≤ l.length := fun l => by
      induction l with
      | nil => simp [meets]
      | cons m l ih =>
        cases l with
        | nil => simp only [meets]; cases meet a b m <;> simp
        | cons m' r =>
          cases h : meet a b m with
          | none => simp only [meets, h, List.nil_append, List.length_cons] at ih ⊢; omega
          | some x =>
            by_cases hlt : x < m'
            · simp only [meets, h, if_pos hlt, List.length_append, List.length_cons, List.length_nil] at ih ⊢; omega
            · simp only [meets, h, if_neg hlt, List.nil_append, List.length_cons] at ih ⊢; omega
    have h4 := h3 (joint0 a b)
    unfold joint
    unfold joint0 at h1 h4 ⊢
    simp at h1 h2 h4 ⊢; omega
  generalize hJ : joint a b = J at *
  refine hasS_0 (c := 0 + (0 + (0 + J.length * 0 + 0))) (hasS_seq_par1 (f_lst has_nil (by simp)) (has_ix (has_var rfl) has_int rfl rfl) fun l es e => ?_) (by simp)
  subst e
  refine hasS_seq (Γ1 := [some (tyD _ (encU a)), some (tyD _ (encU b)), some (tyD _ (.bool w)), some (tyV (.ref l)), some (tyD _ (encF (slA a b w J))), none, none]) (A1 := [(l, (pts (chosenC a b w) J).map encK)])
    (hasS_for J encF (fun pre => [some (tyD _ (encU a)), some (tyD _ (encU b)), some (tyD _ (.bool w)), some (tyV (.ref l)), some (tyD _ (encF (slA a b w pre))), none, none]) (fun pre => [(l, (pts (chosenC a b w) pre).map encK)])
      (i_seq (has_call (has_cons (has_var rfl) (has_cons (has_var rfl) has_nil)) rfl ⟨a, b, rfl, ha, hb, hl, hx, by rw [hJ]⟩) rfl) (.same (.same (.same (.same (.same (.drop (.drop .nil))))))) rfl (fun _ => rfl) (fun pre x suf ex => ⟨_, _, g_name, ?_⟩) fun Γ' w => ⟨w, rfl⟩)
    (hasS_drop (n := 3) rfl (hasS_0 (hasS_retCU (has_cons (has_var rfl) (has_cons (has_var rfl) has_nil)) rfl ⟨pts (chosenC a b w) J, slA a b w J, rfl, ?_, ?_, ⟨fun k hk => ?_, ?_⟩, by unfold pts; simpa using hjl, ?_⟩) rfl))
  · have hxj : x ∈ J := by rw [ex]; simp
    obtain ⟨hx4, hx0⟩ := hjs x hxj
    have hlen : ((pts (chosenC a b w) pre).map encK).length < 100000 := by
      have h2 := congrArg List.length ex
      simp at h2
      unfold pts; simp; omega
    have fp := hpf x
    have step : (pts (chosenC a b w) (pre ++ [x])).map encK = (pts (chosenC a b w) pre).map encK ++ [encK (x, vl (pick a b w x) x)] := by unfold pts; simp [chosenC]
    refine hasS_0 (c := 0 + (0 + 0)) (hasS_seq_set (τ2 := tyD _ (encU (pick a b w x))) (has_le (has_if (c2 := 0) (c3 := 0) (hast_test (has_eq (has_call (has_cons (has_var rfl) (has_cons (has_var rfl) (has_cons (has_var rfl) has_nil))) rfl ⟨a, b, x, rfl, ha, hb, hx0, hx4, rfl⟩) (has_var rfl) eqOk_bool eqOk_bool)) (fun hq => ?_) fun hq => ?_) (by simp))
      (hasS_seq (hasS_append (d := encK (x, vl (pick a b w x) x)) rfl (has_le (has_tup (has_cons (has_var rfl) (has_cons (has_call (has_cons (has_var rfl) (has_cons (has_var rfl) has_nil)) rfl (fp.worth hx0 hx4)) has_nil)) (by simp)) (by simp)) hlen rfl to_here)
        (hasS_set (has_le (has_call (has_cons (has_var rfl) (has_cons (has_var rfl) has_nil)) rfl (fp.slope hx0 hx4)) (by simp)) ⟨?_, by rw [step]⟩))) rfl
    · have hq : low a b x = w := by
        have hq : (low a b x == w) = true := hq
        simpa using hq
      unfold pick; rw [if_pos hq]; exact has_var rfl
    · have hq : ¬ low a b x = w := by
        have hq : (low a b x == w) = false := hq
        simpa using hq
      unfold pick; rw [if_neg hq]; exact has_var rfl
    · have : slA a b w (pre ++ [x]) = sl (pick a b w x) x := by unfold slA; simp
      rw [this]
      exact .same (.same (.same (.same (.same (.drop (.drop .nil))))))
  · have h0 : (0 : Rat) ∈ J := by rw [← hJ]; exact joint_zero ha.crv
    intro z
    unfold pts at z
    rw [List.map_eq_nil_iff.mp z] at h0; cases h0
  · rw [← hJ]; exact (joint_crv ha.crv hb.crv _).sorted
  · unfold pts at hk
    obtain ⟨q, hq, e⟩ := List.mem_map.mp hk
    rw [← e]
    obtain ⟨h4, h0⟩ := hjs q hq
    exact ⟨h4.mono (by decide), ((hpf q).at_ q h0 h4).1.mono (by decide)⟩
  · show Sz 1000 (slA a b w J)
    unfold slA
    cases q : J.getLast? with
    | none => exact ha.sz.2
    | some t =>
      obtain ⟨h4, h0⟩ := hjs t (List.mem_of_getLast? q)
      exact ((hpf t).at_ t h0 h4).2.mono (by decide)
  · have e1 : chosen a b w = norm (pts (chosenC a b w) J) (slA a b w J) := by
      unfold chosen chosenS slA
      rw [hJ] <;> (cases J.getLast? <;> rfl)
    rw [e1] <;> rfl
def F_two (w : Bool) (ds : List PyData) (R : Res) : Prop := ∃ (a b : Cur), ds = [encU a, encU b] ∧ Fin a ∧ Fin b ∧ a.1.length + b.1.length ≤ 450 ∧ (∀ x ∈ meets a b (joint0 a b), Sz 400 x) ∧ R = rU ((chosen a b w).1.map encK) (encF (chosen a b w).2)
abbrev F_least_two := F_two true
abbrev N_least_two : List Str := ["one", "other"]
abbrev P_least_two : List Str := ["one", "other"]
theorem sc_least_two : FnScope N_least_two P_least_two (defScope (top 34)) := ⟨rfl, rfl, rfl, by decide +kernel, rfl, by decide +kernel, by decide +kernel⟩
theorem ok_least_two (T : Txt mg) (O : OddOk K) (D_chosen : Def P w K mg base CX0 8 "chosen" P_chosen (spR TT K 0 F_chosen 3)) (F : At K mg "least_two" 34) : Def P w K mg base CX0 9 "least_two" P_least_two (spR TT K 0 F_least_two 2) := by
  have nd := sc_least_two.nd
  have hu65 : ∀ {k A}, Room k A → A.units + 65 < cLine := fun r => by have := r.un; omega
  refine def_of0 F sc_least_two (fun _ _ _ _ _ _ us hl => match us, hl with | [_, _], _ => rfl) (fun vs H Q E h => len_R h) (fun cdv A outer s H vs Q E hr h => ⟨_, (pss_one (ps_ret (pe_callD D_chosen hr (by decide) rfl pass0 (pa_cons (pv 0) (pa_cons (pv 1) (pa_cons pe_bl pa_nil)))))), read_R ?_ h⟩)
  rintro S ds R ⟨a, b, rfl, ha, hb, hl, hx, rfl⟩ _
  exact hasS_0 (hasS_retCU (has_cons (has_var rfl) (has_cons (has_var rfl) (has_cons has_bl has_nil))) rfl ⟨a, b, true, rfl, ha, hb, hl, hx, rfl⟩) rfl
abbrev F_greatest_two := F_two false
abbrev N_greatest_two : List Str := ["one", "other"]
abbrev P_greatest_two : List Str := ["one", "other"]
theorem sc_greatest_two : FnScope N_greatest_two P_greatest_two (defScope (top 35)) := ⟨rfl, rfl, rfl, by decide +kernel, rfl, by decide +kernel, by decide +kernel⟩
theorem ok_greatest_two (T : Txt mg) (O : OddOk K) (D_chosen : Def P w K mg base CX0 8 "chosen" P_chosen (spR TT K 0 F_chosen 3)) (F : At K mg "greatest_two" 35) : Def P w K mg base CX0 9 "greatest_two" P_greatest_two (spR TT K 0 F_greatest_two 2) := by
  have nd := sc_greatest_two.nd
  have hu65 : ∀ {k A}, Room k A → A.units + 65 < cLine := fun r => by have := r.un; omega
  refine def_of0 F sc_greatest_two (fun _ _ _ _ _ _ us hl => match us, hl with | [_, _], _ => rfl) (fun vs H Q E h => len_R h) (fun cdv A outer s H vs Q E hr h => ⟨_, (pss_one (ps_ret (pe_callD D_chosen hr (by decide) rfl pass0 (pa_cons (pv 0) (pa_cons (pv 1) (pa_cons pe_bl pa_nil)))))), read_R ?_ h⟩)
  rintro S ds R ⟨a, b, rfl, ha, hb, hl, hx, rfl⟩ _
  exact hasS_0 (hasS_retCU (has_cons (has_var rfl) (has_cons (has_var rfl) (has_cons has_bl has_nil))) rfl ⟨a, b, false, rfl, ha, hb, hl, hx, rfl⟩) rfl
/-- [*xs, y] -/
theorem has_star1 {C : Cf} {c1 c2 : Nat} {ta tb : TE} {Γ : Cxt} {xs : List PyData} {y : PyData} (h : HasE C c1 ta Γ (tyD C (.list xs))) (h2 : HasE C c2 tb Γ (tyD C y)) : HasA C (c1 + c2) (StX.tStar C.K ta (tCons tb tNil)) Γ (fun l => l = xs ++ [y]) := fun M k σ H Q ok st q =>
  h M (k + c2) σ H _ (ok.le (by omega)) st fun v H1 g1 o1 p => by
    obtain ⟨a, us, e, hs, r⟩ := d_lst p
    exact ⟨a, us, e, .inr (sqL_of (hide_some hs).2), h2 M k σ H1 _ o1 (st.ext (g1.k ok)) fun v2 H2 g2 o2 p2 => q _ H2 _ (g1.trans g2) o2 rfl (dA_app (r.ext (g2.k o1)) (dA_one p2))⟩
/-- what a sum asks: its parts fit -/
structure SumOk (us : List Cur) : Prop where
  fin : ∀ u ∈ us, Fin u
  len : (momsOf us).length ≤ 800
  val : ∀ pre suf, us = pre ++ suf → ∀ m ∈ once (momsOf us ++ [0]), Sz 900 (total (pre.map fun c => vl c m))
  slp : ∀ pre suf, us = pre ++ suf → Sz 900 (total (pre.map (·.2)))
theorem total_snoc (l : List Rat) (x : Rat) : total (l ++ [x]) = total l + x := by unfold total; simp
def F_summed (ds : List PyData) (R : Res) : Prop := ∃ us : List Cur, ds = [.list (us.map encU)] ∧ SumOk us ∧ R = rU ((summed us).1.map encK) (encF (summed us).2)
abbrev N_summed : List Str := ["curves", "moments", "corners", "slope", "moment", "worth", "curve"]
abbrev P_summed : List Str := ["curves"]
theorem sc_summed : FnScope N_summed P_summed (defScope (top 36)) := ⟨rfl, rfl, rfl, by decide +kernel, rfl, by decide +kernel, by decide +kernel⟩
theorem ok_summed (T : Txt mg) (O : OddOk K) (D_moments_of : Def P w K mg base CX0 4 "moments_of" P_moments_of (spD TT K F_moments_of 1)) (D_normal : Def P w K mg base CX0 5 "normal" P_normal (spR TT K 0 F_normal 2)) (D_plus : Def P w K mg base CX0 2 "plus" P_plus (spD TT K F_plus 2)) (D_worth_of : Def P w K mg base CX0 5 "worth_of" P_worth_of (spD TT K F_worth_of 2)) (F : At K mg "summed" 36) : Def P w K mg base CX0 6 "summed" P_summed (spR TT K 0 F_summed 1) := by
  have nd := sc_summed.nd
  have hu65 : ∀ {k A}, Room k A → A.units + 65 < cLine := fun r => by have := r.un; omega
  refine def_of0 F sc_summed (fun _ _ _ _ _ _ us hl => match us, hl with | [_], _ => rfl) (fun vs H Q E h => len_R h) (fun cdv A outer s H vs Q E hr h => ⟨_, (pss_cons (ps_set (i := 1) nd rfl (Or.inl rfl) (pe_callD D_moments_of hr (by decide) rfl pass0 (pa_cons (pe_lst (StX.pa_star (pv 0) (pa_cons (pe_tup (pa_cons (pe_lst (pa_cons (pe_tup (pa_cons (pe_tup (pa_cons pe_int (pa_cons pe_int pa_nil))) (pa_cons (pe_tup (pa_cons pe_int (pa_cons pe_int pa_nil))) pa_nil))) pa_nil)) (pa_cons (pe_tup (pa_cons pe_int (pa_cons pe_int pa_nil))) pa_nil))) pa_nil))) pa_nil)))
    (pss_cons (ps_par (i := 2) (j := 3) (by rfl) nd rfl rfl (by decide) rfl rfl (pa_cons (pe_lst pa_nil) (pa_cons (pe_tup (pa_cons pe_int (pa_cons pe_int pa_nil))) pa_nil)) (by rfl))
    (pss_cons (ps_for PassesOwn.never rfl (pi_seq (pv 1)) (pg_name (i := 4) nd rfl (Or.inl rfl)) (pss_cons (ps_set (i := 5) nd rfl (Or.inl rfl) (pe_tup (pa_cons pe_int (pa_cons pe_int pa_nil))))
    (pss_cons (ps_for PassesOwn.never rfl (pi_seq (pv 0)) (pg_name (i := 6) nd rfl (Or.inl rfl)) (pss_one (ps_set (i := 5) nd rfl (Or.inl rfl) (pe_callD D_plus hr (by decide) rfl pass0 (pa_cons (pv 5) (pa_cons (pe_callD D_worth_of hr (by decide) rfl pass0 (pa_cons (pv 6) (pa_cons (pv 4) pa_nil))) pa_nil))))))
    (pss_one (ps_expr (pe_bm PySem.F.plainAttrs_list PySem.F.slot_list_append PySem.F.type_list_append mt_append (pv 2) (pa_cons (pe_tup (pa_cons (pv 4) (pa_cons (pv 5) pa_nil))) pa_nil)))))))
    (pss_cons (ps_for PassesOwn.never rfl (pi_seq (pv 0)) (pg_name (i := 6) nd rfl (Or.inl rfl)) (pss_one (ps_set (i := 3) nd rfl (Or.inl rfl) (pe_callD D_plus hr (by decide) rfl pass0 (pa_cons (pv 3) (pa_cons (pe_ix ix_seq (pv 6) pe_int (fun _ _ => rfl)) pa_nil))))))
    (pss_one (ps_ret (pe_callD D_normal hr (by decide) rfl pass0 (pa_cons (pv 2) (pa_cons (pv 3) pa_nil))))))))), read_R ?_ h⟩)
  rintro S ds R ⟨us, rfl, hs, rfl⟩ _
  have hmom : ∀ q ∈ momsOf us, Sz 400 q := fun q hq => by
    obtain ⟨u, hu, h⟩ := List.mem_flatMap.mp hq
    exact (hs.fin u hu).mom q h
  have z0 : Sz 400 (0 : Rat) := ⟨by decide, by decide⟩
  have hz1 : ∀ q ∈ momsOf (us ++ [([(0, 0)], 0)]), Sz 400 q := fun q hq => by
    unfold momsOf at hq
    rw [List.flatMap_append] at hq
    rcases List.mem_append.mp hq with h | h
    · exact hmom q h
    · have : q = 0 := by simpa using h
      rw [this]; exact z0
  have em : momsOf (us ++ [([(0, 0)], 0)]) = momsOf us ++ [0] := by unfold momsOf; rw [List.flatMap_append]; rfl
  have hcrv : ∀ c ∈ us, Crv c.1 := fun c hc => (hs.fin c hc).crv
  have hM4 : ∀ q ∈ once (momsOf us ++ [0]), Sz 400 q ∧ 0 ≤ q := fun q hq => ⟨hz1 q (by rw [em]; exact mem_once.mp hq), sumM_nn hcrv q hq⟩
  have hMl : (once (momsOf us ++ [0])).length ≤ 50000 := by
    have h1 := length_once (l := momsOf us ++ [0])
    have h2 := hs.len
    simp at h1; omega
  have hul : us.length ≤ 800 := by
    have h2 := hs.len
    have : ∀ l : List Cur, (∀ u ∈ l, Fin u) → l.length ≤ (momsOf l).length := fun l => by
      induction l with
      | nil => intro _; simp
      | cons u l ih =>
        intro h
        have h1 := ih fun v hv => h v (List.mem_cons_of_mem _ hv)
        have h2 := (h u (List.mem_cons_self ..)).ne
        have h3 : 0 < u.1.length := List.length_pos_iff.mpr h2
        unfold momsOf at h1 ⊢
        rw [List.flatMap_cons, List.length_append, List.length_cons]
        simp at h1 ⊢; omega
    have := this us hs.fin
    omega
  have hval := hs.val
  generalize hM : once (momsOf us ++ [0]) = M at *
  refine hasS_0 (c := 0 + (0 + (0 + (0 + M.length * 0 + (0 + us.length * 0 + 0))))) (hasS_seq_set (has_conv (has_call (has_cons (has_conv (has_lst (has_star1 (has_var rfl) (has_tup (has_cons (has_lst (has_cons (has_tup (has_cons (has_tup (has_cons has_int (has_cons has_int has_nil)) (by simp)) (has_cons (has_tup (has_cons has_int (has_cons has_int has_nil)) (by simp)) has_nil)) (by simp)) has_nil) (by simp)) (has_cons (has_tup (has_cons has_int (has_cons has_int has_nil)) (by simp)) has_nil)) (by simp))) (by simp; omega))
      (show PyData.list (us.map encU ++ [encU ([(0, 0)], 0)]) = .list ((us ++ [([(0, 0)], 0)]).map encU) by simp)) has_nil) rfl ⟨_, rfl, fun q hq => (hz1 q hq).mono (by decide), by rw [em]; have := hs.len; simp; omega, rfl⟩) (by rw [em, hM]))
    (hasS_seq_par1 (f_lst has_nil (by simp)) (has_tup (has_cons has_int (has_cons has_int has_nil)) (by simp)) fun l es e => ?_)) (by simp)
  subst e
  let f : Rat → Rat := fun t => total (us.map fun c => vl c t)
  refine hasS_seq (Γ1 := [some (tyD _ (.list (us.map encU))), some (tyD _ (.list (M.map encF))), some (tyV (.ref l)), some (tyD _ (encF 0)), none, none, none]) (A1 := [(l, (pts f M).map encK)])
    (hasS_for M encF (fun _ => [some (tyD _ (.list (us.map encU))), some (tyD _ (.list (M.map encF))), some (tyV (.ref l)), some (tyD _ (encF 0)), none, none, none]) (fun pre => [(l, (pts f pre).map encK)])
      (i_seq (has_var rfl) rfl) (.same (.same (.same (.same (.drop (.drop (.drop .nil))))))) rfl (fun _ => rfl) (fun pre x suf ex => ⟨_, _, g_name, ?_⟩) fun Γ' w => ⟨w, rfl⟩)
    (hasS_seq (Γ1 := [some (tyD _ (.list (us.map encU))), some (tyD _ (.list (M.map encF))), some (tyV (.ref l)), some (tyD _ (encF (total (us.map (·.2))))), none, none, none]) (A1 := [(l, (pts f M).map encK)])
      (hasS_for us encU (fun pre => [some (tyD _ (.list (us.map encU))), some (tyD _ (.list (M.map encF))), some (tyV (.ref l)), some (tyD _ (encF (total (pre.map (·.2))))), none, none, none]) (fun _ => [(l, (pts f M).map encK)])
        (i_seq (has_var rfl) rfl) (.same (.same (.same (.same (.drop (.drop (.drop .nil))))))) rfl (fun _ => rfl) (fun pre x suf ex => ⟨_, _, g_name, ?_⟩) fun Γ' w => ⟨w, rfl⟩)
      (hasS_drop (n := 2) rfl (hasS_0 (hasS_retCU (has_cons (has_var rfl) (has_cons (has_var rfl) has_nil)) rfl ⟨pts f M, total (us.map (·.2)), rfl, ?_, ?_, ⟨fun k hk => ?_, (hs.slp us [] (by simp)).mono (by decide)⟩, by unfold pts; simpa using hMl, ?_⟩) rfl)))
  · have hxM : x ∈ M := by rw [ex]; simp
    obtain ⟨hx4, hx0⟩ := hM4 x hxM
    have hlen : ((pts f pre).map encK).length < 100000 := by
      have h2 := congrArg List.length ex
      simp at h2
      unfold pts; simp; omega
    have step : (pts f (pre ++ [x])).map encK = (pts f pre).map encK ++ [encK (x, f x)] := by unfold pts; simp
    refine hasS_0 (c := 0 + (0 + us.length * 0 + 0)) (hasS_seq_set (τ2 := tyD _ (encF 0)) (has_le (has_tup (has_cons has_int (has_cons has_int has_nil)) (by simp)) (by simp))
      (hasS_seq (Γ1 := [some (tyD _ (.list (us.map encU))), some (tyD _ (.list (M.map encF))), some (tyV (.ref l)), some (tyD _ (encF 0)), some (tyD _ (encF x)), some (tyD _ (encF (f x))), none]) (A1 := [(l, (pts f pre).map encK)])
        (hasS_for us encU (fun pr => [some (tyD _ (.list (us.map encU))), some (tyD _ (.list (M.map encF))), some (tyV (.ref l)), some (tyD _ (encF 0)), some (tyD _ (encF x)), some (tyD _ (encF (total (pr.map fun c => vl c x)))), none]) (fun _ => [(l, (pts f pre).map encK)])
          (i_seq (has_var rfl) rfl) (.same (.same (.same (.same (.same (.same (.drop .nil))))))) rfl (fun _ => rfl) (fun pr u sf eu => ⟨_, _, g_name, ?_⟩) fun Γ' w => ⟨w, rfl⟩)
        (hasS_append (d := encK (x, f x)) rfl (has_le (has_tup (has_cons (has_var rfl) (has_cons (has_var rfl) has_nil)) (by simp)) (by simp)) hlen rfl ⟨.same (.same (.same (.same (.drop (.drop (.drop .nil)))))), by rw [step]⟩))) (by simp)
    have fu := hs.fin u (by rw [eu]; simp)
    obtain ⟨vu, _⟩ := fu.at_ x hx0 hx4
    have hv := hval pr (u :: sf) eu x hxM
    refine hasS_0 (hasS_set (has_call (has_cons (has_var rfl) (has_cons (has_call (has_cons (has_var rfl) (has_cons (has_var rfl) has_nil)) rfl (fu.worth hx0 hx4)) has_nil)) rfl ⟨_, _, rfl, fit hv vu (by decide), rfl⟩) ⟨?_, rfl⟩) rfl
    rw [List.map_append, List.map_singleton, total_snoc]
    exact .same (.same (.same (.same (.same (.same (.drop .nil))))))
  · have fu := hs.fin x (by rw [ex]; simp)
    have hv := hs.slp pre (x :: suf) ex
    refine hasS_0 (hasS_set (has_call (has_cons (has_var rfl) (has_cons (has_ix (has_var rfl) has_int rfl rfl) has_nil)) rfl ⟨_, _, rfl, fit hv fu.sz.2 (by decide), rfl⟩) ⟨?_, rfl⟩) rfl
    rw [List.map_append, List.map_singleton, total_snoc]
    exact .same (.same (.same (.same (.drop (.drop (.drop .nil))))))
  · have h0 : (0 : Rat) ∈ M := by rw [← hM]; exact sumM_zero
    intro z
    unfold pts at z
    rw [List.map_eq_nil_iff.mp z] at h0; cases h0
  · rw [← hM]; exact (sum_crv hcrv f).sorted
  · unfold pts at hk
    obtain ⟨q, hq, e⟩ := List.mem_map.mp hk
    rw [← e]
    exact ⟨(hM4 q hq).1.mono (by decide), (hval us [] (by simp) q hq).mono (by decide)⟩
  · unfold Qk.summed
    rw [hM]; rfl
end
end Q6
end
section
set_option maxHeartbeats 4000000
set_option exponentiation.threshold 20000
namespace Q6
open PySem PySem.Spec PyProof.Rows L2 LamX RZ Qk
abbrev rNo : Res := fun _ _ _ _ _ => False
theorem read_E {T : List (Addr × Str)} {K : PySem.W.Frag} {N : List Str} {c : Nat} {F : List PyData → Out → Prop} {n : Nat} {t : TS} {vs : List V} {H : Hp} {Q : VK} {E : XK}
    (h : ∀ S ds O, F ds O → ds.length = n → match O with
      | .ok R => HasS ⟨K, T, S⟩ c t (cxt ⟨K, T, S⟩ ds N.length) [] nvr R
      | .err cls f dv => HasR ⟨K, T, S⟩ c t (cxt ⟨K, T, S⟩ ds N.length) [] E cls f dv) (s : spE T K c F n vs H Q E) : t { nx := fun _ H' => Q .non H', rt := Q } (L2.start N vs) H := by
  obtain ⟨S, M, k, ds, O, hl, ok, hd, hF, q⟩ := s
  have h1 := h S ds O hF (by rw [← dA_len hd]; exact hl)
  have a0 : At0 ⟨K, T, S⟩ (k + c) M H (hide M H) [] (cxt ⟨K, T, S⟩ ds N.length) (L2.start N vs) H := ⟨ok, ok, go.refl H, ExtN.refl _, fun p hp => (nomatch hp), List.nodup_nil, sat_start hd⟩
  cases O with
  | ok R => exact h1 M H (hide M H) k _ H _ a0 (fun _ _ _ _ z => z.elim) q
  | err cls f dv => exact h1 M H (hide M H) k _ H _ a0 q
theorem hasR_for {C : Cf} {Γ : Cxt} {A : Own} {c1 : Nat} {wi : TI} {g : TG} {tb : TS} {E : XK} {cls f : Str} {dv : PyData} {α : Type} (pre suf : List α) (x : α) (enc : α → PyData) (Γi : List α → Cxt) (hi : HasI C c1 wi Γ (fun l => l = (pre ++ x :: suf).map enc)) (h0 : Wk Γ (Γi []))
    (hs : ∀ p y s, pre = p ++ y :: s → ∃ ws Δ, HasG C g ws (Γi p) (enc y) Δ ∧ HasS C 0 tb Δ A (to (Γi (p ++ [y])) A) rNo)
    (hx : ∃ ws Δ, HasG C g ws (Γi pre) (enc x) Δ ∧ HasR C 0 tb Δ A E cls f dv) : HasR C c1 (tFor wi g tb) Γ A E cls f dv := fun M0 H0 N k σ H D a q =>
  hi _ k σ H _ a.ok a.sat fun J H1 ds g1 o1 eds w => by
    subst eds
    have a1 := a.gos g1 o1
    refine for_it (w (A.map (·.1) ++ M0)) (fun i σ H => i ≤ pre.length ∧ ∃ Γ', Wk Γ' (Γi (pre.take i)) ∧ At0 C k M0 H0 (hide (A.map (·.1) ++ M0) H1) A Γ' σ H) ?_ ?_ ?_ ?_
    · exact ⟨Nat.zero_le _, Γ, by simpa using h0, a1.ok, a1.ok0, a1.gone, ExtN.refl _, a1.own, a1.nd, a1.sat⟩
    · rintro i σ2 H2 hi2 ⟨_, Γ', _, a2⟩
      exact ⟨a2.kept, a2.ok.dom⟩
    · rintro i v σ2 H2 H3 hi2 ⟨hip, Γ', hw, a2⟩ ⟨hh, d, hd, p⟩
      have g3 : go C H2 H3 ∧ Ok C k (A.map (·.1) ++ M0) H3 := by
        rcases hh with z | ⟨T, o, hT, z⟩
        · subst z; exact ⟨go.refl _, a2.ok⟩
        · subst z; exact ⟨go.new hT, a2.ok.new hT⟩
      have a3 := a2.gos g3.1 g3.2
      by_cases hlt : i < pre.length
      · have hsplit : pre = pre.take i ++ pre[i] :: pre.drop (i + 1) := by rw [List.getElem_cons_drop, List.take_append_drop]
        have ed : enc pre[i] = d := by
          rw [List.getElem?_map, List.getElem?_append_left hlt, List.getElem?_eq_getElem hlt] at hd
          exact Option.some.inj hd
        subst ed
        obtain ⟨ws, Δ, hg, hb⟩ := hs _ _ _ hsplit
        refine g_wk hw hg _ σ2 H3 v _ a3.sat p fun σ3 s3 _ => ?_
        refine hb M0 H0 (hide (A.map (·.1) ++ M0) H1) k σ3 H3 _ ⟨a3.ok, a3.ok0, a3.gone, a3.kept, a3.own, a3.nd, s3⟩ (fun Γ4 A4 σ4 H4 ⟨w4, e4⟩ a4 => ?_) fun v H' _ _ z => z.elim
        subst e4
        have htake : pre.take i ++ [pre[i]] = pre.take (i + 1) := by rw [List.take_succ, List.getElem?_eq_getElem hlt]; rfl
        exact ⟨hlt, Γ4, by rw [← htake]; exact w4, a4⟩
      · have ei : i = pre.length := by omega
        subst ei
        have ed : enc x = d := by
          rw [List.getElem?_map, List.getElem?_append_right (Nat.le_refl _)] at hd
          simpa using hd
        subst ed
        obtain ⟨ws, Δ, hg, hb⟩ := hx
        rw [List.take_length] at hw
        refine g_wk hw hg _ σ2 H3 v _ a3.sat p fun σ3 s3 _ => ?_
        exact hb M0 H0 _ k σ3 H3 _ ⟨a3.ok, a3.ok0, a3.gone, a3.kept, a3.own, a3.nd, s3⟩ q
    · rintro σ2 H2 ⟨hip, _⟩
      simp at hip
      omega
theorem has_neg {C : Cf} {Γ : Cxt} {te : TE} {c : Nat} {i : Int} (h : HasE C c te Γ (tyD C (.int i))) : HasE C c (tUn (L2.rU fun i => V.int (-i)) te) Γ (tyD C (.int (-i))) := fun M k σ H Q ok st q => h M k σ H _ ok st fun v H1 g1 o1 p => ⟨i, d_int p, q _ H1 g1 o1 (.int _)⟩
theorem sc_BadFraction : FnScope (["self", "thing"] : List Str) ["self", "thing"] (defScope (ini 3)) := ⟨rfl, rfl, rfl, by decide +kernel, rfl, by decide +kernel, by decide +kernel⟩
theorem sc_BadCurve : FnScope (["self", "thing"] : List Str) ["self", "thing"] (defScope (ini 40)) := ⟨rfl, rfl, rfl, by decide +kernel, rfl, by decide +kernel, by decide +kernel⟩
theorem sc_BadCurves : FnScope (["self", "index"] : List Str) ["self", "index"] (defScope (ini 41)) := ⟨rfl, rfl, rfl, by decide +kernel, rfl, by decide +kernel, by decide +kernel⟩
section
variable {P : Program} {w : World} {K : PySem.W.Frag} {mg : Str → Option Value} {base : Heap} {TT : List (Addr × Str)}
structure TimesOk (u : Cur) (f : Rat) : Prop where
  ne : u.1 ≠ []
  srt : Sorted u.1
  cor : ∀ k ∈ u.1, Sz 1000 k.1 ∧ Sz 1000 k.2 ∧ Sz 1000 (f * k.2)
  slp : Sz 1000 u.2
  slp2 : Sz 1000 (f * u.2)
  fac : Sz 1000 f
  len : u.1.length ≤ 50000
theorem TimesOk.F {u : Cur} {f : Rat} (t : TimesOk u f) : F_many_times [encU u, encF f] (rU ((timesC f u).1.map encK) (encF (timesC f u).2)) := ⟨u, f, rfl, t.ne, t.srt, t.cor, t.slp, t.slp2, t.fac, t.len, rfl⟩
def F_apart_by (ds : List PyData) (R : Res) : Prop := ∃ (a b : Cur), ds = [encU a, encU b] ∧ TimesOk b (-1) ∧ SumOk [a, timesC (-1) b] ∧ R = rU ((apart a b).1.map encK) (encF (apart a b).2)
abbrev N_apart_by : List Str := ["one", "other"]
abbrev P_apart_by : List Str := ["one", "other"]
theorem sc_apart_by : FnScope N_apart_by P_apart_by (defScope (top 38)) := ⟨rfl, rfl, rfl, by decide +kernel, rfl, by decide +kernel, by decide +kernel⟩
theorem ok_apart_by (T : Txt mg) (O : OddOk K) (D_summed : Def P w K mg base CX0 6 "summed" P_summed (spR TT K 0 F_summed 1)) (D_many_times : Def P w K mg base CX0 6 "many_times" P_many_times (spR TT K 0 F_many_times 2)) (F : At K mg "apart_by" 38) : Def P w K mg base CX0 7 "apart_by" P_apart_by (spR TT K 0 F_apart_by 2) := by
  have nd := sc_apart_by.nd
  have hu65 : ∀ {k A}, Room k A → A.units + 65 < cLine := fun r => by have := r.un; omega
  refine def_of0 F sc_apart_by (fun _ _ _ _ _ _ us hl => match us, hl with | [_, _], _ => rfl) (fun vs H Q E h => len_R h) (fun cdv A outer s H vs Q E hr h => ⟨_, (pss_one (ps_ret (pe_callD D_summed hr (by decide) rfl pass0 (pa_cons (pe_lst (pa_cons (pv 0) (pa_cons (pe_callD D_many_times hr (by decide) rfl pass0 (pa_cons (pv 1) (pa_cons (pe_tup (pa_cons (pe_un un_neg pe_int) (pa_cons pe_int pa_nil))) pa_nil))) pa_nil))) pa_nil)))), read_R ?_ h⟩)
  rintro S ds R ⟨a, b, rfl, hb, hs, rfl⟩ _
  have e1 : encF (-1) = .tuple [.int (-1), .int 1] := rfl
  exact hasS_0 (hasS_retCU (has_cons (has_lst (has_cons (has_var rfl) (has_cons (has_callU (ds := [encU b, encF (-1)]) (has_cons (has_var rfl) (has_cons (has_tup (has_cons (has_neg has_int) (has_cons has_int has_nil)) (by simp)) has_nil)) rfl hb.F (τc := .none)) has_nil)) (by simp)) has_nil) rfl ⟨[a, timesC (-1) b], rfl, hs, rfl⟩) rfl
def F_checked_fraction (ds : List PyData) (O : Out) : Prop := (∃ x q, ds = [x] ∧ rawF x q ∧ O = .ok (rD (encF q))) ∨ ∃ x, ds = [x] ∧ clean x = true ∧ isFracD x = false ∧ O = .err "BadFraction" "thing" x
abbrev N_checked_fraction : List Str := ["thing"]
abbrev P_checked_fraction : List Str := ["thing"]
theorem sc_checked_fraction : FnScope N_checked_fraction P_checked_fraction (defScope (top 11)) := ⟨rfl, rfl, rfl, by decide +kernel, rfl, by decide +kernel, by decide +kernel⟩
theorem ok_checked_fraction (T : Txt mg) (O : OddOk K) (D_told : Def P w K mg base CX0 2 "told" P_told (spD TT K F_told 1)) (D_is_fraction : Def P w K mg base CX0 3 "is_fraction" P_is_fraction (spD TT K F_is_fraction 1)) (X_BadFraction : Xc K mg "BadFraction" "thing" 3) (F : At K mg "checked_fraction" 11) : Def P w K mg base (L2.CX P w) 4 "checked_fraction" P_checked_fraction (spE TT K 0 F_checked_fraction 1) := by
  have nd := sc_checked_fraction.nd
  have hu65 : ∀ {k A}, Room k A → A.units + 65 < cLine := fun r => by have := r.un; omega
  refine def_ofX F sc_checked_fraction (fun _ _ _ _ _ _ us hl => match us, hl with | [_], _ => rfl) (fun vs H Q E h => len_E h) (fun cdv A outer s H vs Q E hr h => ⟨_, (pss_cons (ps_if (pt_not (pt_val (pe_callD D_is_fraction hr (by decide) rfl pass0 (pa_cons (pv 0) pa_nil)))) (pss_one (ps_raiseX X_BadFraction sc_BadFraction rfl rfl (.inl rfl) (.inl rfl) (fun _ _ _ _ _ _ _ us hl => match us, hl with | [_, _], _ => rfl) rfl rfl (takes_of rfl rfl rfl rfl) (hr.mono (by decide)) rfl (pv 0) rfl rfl)) pss_nil)
    (pss_one (ps_ret (pe_callD D_told hr (by decide) rfl pass0 (pa_cons (pv 0) pa_nil))))), read_E ?_ h⟩)
  rintro S ds O (⟨x, q, rfl, hx, rfl⟩ | ⟨x, rfl, hx, hf, rfl⟩) _
  · refine hasS_0 (hasS_seqif (c2 := 0) (c3 := 0) (hast_not (hast_B (has_call (has_cons (has_var rfl) has_nil) rfl ⟨x, rfl, hx.clean, rfl⟩))) (fun hq => ?_) fun hq => hasS_seq_next (hasS_0 (hasS_ret (has_call (has_cons (has_var rfl) has_nil) rfl (rawF_told hx))) rfl)) rfl
    rw [hx.frac] at hq; cases hq
  · refine hasR_0 (hasR_seq1 (hasR_if (c2 := 0) (c3 := 0) (hast_not (hast_B (has_call (has_cons (has_var rfl) has_nil) rfl ⟨x, rfl, hx, rfl⟩))) (fun hq => hasR_raise rfl (has_var rfl)) fun hq => ?_)) rfl
    rw [hf] at hq; cases hq
def F_checked_curve (ds : List PyData) (O : Out) : Prop := (∃ x u, ds = [x] ∧ rawU x u ∧ Crv u.1 ∧ u.1.length ≤ 50000 ∧ O = .ok (rU ((normC u.1 u.2).map encK) (encF u.2))) ∨ ∃ x, ds = [x] ∧ clean x = true ∧ headOk x = false ∧ O = .err "BadCurve" "thing" x
abbrev N_checked_curve : List Str := ["thing"]
abbrev P_checked_curve : List Str := ["thing"]
theorem sc_checked_curve : FnScope N_checked_curve P_checked_curve (defScope (top 43)) := ⟨rfl, rfl, rfl, by decide +kernel, rfl, by decide +kernel, by decide +kernel⟩
theorem ok_checked_curve (T : Txt mg) (O : OddOk K) (D_as_told : Def P w K mg base CX0 6 "as_told" P_as_told (spR TT K 0 F_as_told 1)) (D_is_curve_thing : Def P w K mg base CX0 5 "is_curve_thing" P_is_curve_thing (spD TT K F_is_curve_thing 1)) (X_BadCurve : Xc K mg "BadCurve" "thing" 40) (F : At K mg "checked_curve" 43) : Def P w K mg base (L2.CX P w) 7 "checked_curve" P_checked_curve (spE TT K 0 F_checked_curve 1) := by
  have nd := sc_checked_curve.nd
  have hu65 : ∀ {k A}, Room k A → A.units + 65 < cLine := fun r => by have := r.un; omega
  refine def_ofX F sc_checked_curve (fun _ _ _ _ _ _ us hl => match us, hl with | [_], _ => rfl) (fun vs H Q E h => len_E h) (fun cdv A outer s H vs Q E hr h => ⟨_, (pss_cons (ps_if (pt_not (pt_val (pe_callD D_is_curve_thing hr (by decide) rfl pass0 (pa_cons (pv 0) pa_nil)))) (pss_one (ps_raiseX X_BadCurve sc_BadCurve rfl rfl (.inl rfl) (.inl rfl) (fun _ _ _ _ _ _ _ us hl => match us, hl with | [_, _], _ => rfl) rfl rfl (takes_of rfl rfl rfl rfl) (hr.mono (by decide)) rfl (pv 0) rfl rfl)) pss_nil)
    (pss_one (ps_ret (pe_callD D_as_told hr (by decide) rfl pass0 (pa_cons (pv 0) pa_nil))))), read_E ?_ h⟩)
  rintro S ds O (⟨x, u, rfl, hx, hc, hl, rfl⟩ | ⟨x, rfl, hx, hf, rfl⟩) _
  · refine hasS_0 (hasS_seqif (c2 := 0) (c3 := 0) (hast_not (hast_B (has_call (has_cons (has_var rfl) has_nil) rfl ⟨x, rfl, hx.clean, .inl ⟨u, hx, hc, hl, rfl⟩⟩))) (fun hq => ?_) fun hq => hasS_seq_next (hasS_0 (hasS_retCU (has_cons (has_var rfl) has_nil) rfl ⟨x, u, rfl, hx, hc, hl, rfl⟩) rfl)) rfl
    cases hq
  · refine hasR_0 (hasR_seq1 (hasR_if (c2 := 0) (c3 := 0) (hast_not (hast_B (has_call (has_cons (has_var rfl) has_nil) rfl ⟨x, rfl, hx, .inr ⟨hf, rfl⟩⟩))) (fun hq => hasR_raise rfl (has_var rfl)) fun hq => ?_)) rfl
    cases hq
/-- a curve handed in -/
def uOf (x : PyData) : Cur := match seqD x with
  | some [a, b] => (((seqD a).getD []).map kOf, kOf.fOf b)
  | _ => ([], 0)
theorem fOf_raw {x : PyData} {q : Rat} (h : rawF x q) : kOf.fOf x = q := by
  obtain ⟨n, m, e, _, _, _, h1⟩ := h
  unfold kOf.fOf
  rw [e]; exact h1.symm
theorem uOf_raw {x : PyData} {u : Cur} (h : rawU x u) : uOf x = u := by
  obtain ⟨a, b, e, ⟨es, ea, hp⟩, hb⟩ := h
  unfold uOf
  rw [e]
  show (((seqD a).getD []).map kOf, kOf.fOf b) = u
  rw [ea, fOf_raw hb]
  have : es.map kOf = u.1 := by
    clear ea
    generalize u.1 = c at hp
    induction hp with
    | nil => rfl
    | cons h _ ih => rw [List.map_cons, ih, kOf_raw h]
  exact Prod.ext this rfl
/-- a curve handed in, as it is told -/
def tld (u : Cur) : Cur := (normC u.1 u.2, u.2)
structure Given (x : PyData) (u : Cur) : Prop where
  raw : rawU x u
  crv : Crv u.1
  len : u.1.length ≤ 50000
def F_checked_curves (ds : List PyData) (O : Out) : Prop := (∃ x es us, ∃ n : Nat, ds = [x, .int n] ∧ seqD x = some es ∧ Paired Given es us ∧ n ≤ es.length ∧ es.length ≤ 50000 ∧ O = .ok (rD (.list (us.map fun u => encU (tld u))))) ∨
  (∃ x, ∃ n : Nat, ds = [x, .int n] ∧ clean x = true ∧ (∀ es, seqD x = some es → es.length < n) ∧ O = .err "BadCurves" "index" (.int 0)) ∨
  ∃ x pre us y suf, ∃ n : Nat, ds = [x, .int n] ∧ clean x = true ∧ seqD x = some (pre ++ y :: suf) ∧ n ≤ (pre ++ y :: suf).length ∧ Paired Given pre us ∧ clean y = true ∧ headOk y = false ∧ O = .err "BadCurves" "index" (.int (pre.length : Nat))
abbrev N_checked_curves : List Str := ["curves", "least_many", "index", "thing", "curve"]
abbrev P_checked_curves : List Str := ["curves", "least_many"]
theorem sc_checked_curves : FnScope N_checked_curves P_checked_curves (defScope (top 45)) := ⟨rfl, rfl, rfl, by decide +kernel, rfl, by decide +kernel, by decide +kernel⟩
theorem ok_checked_curves (T : Txt mg) (O : OddOk K) (D_as_told : Def P w K mg base CX0 6 "as_told" P_as_told (spR TT K 0 F_as_told 1)) (D_is_list : Def P w K mg base CX0 1 "is_list" P_is_list (spD TT K F_is_list 1)) (D_is_curve_thing : Def P w K mg base CX0 5 "is_curve_thing" P_is_curve_thing (spD TT K F_is_curve_thing 1)) (X_BadCurves : Xc K mg "BadCurves" "index" 41) (F : At K mg "checked_curves" 45) : Def P w K mg base (L2.CX P w) 7 "checked_curves" P_checked_curves (spE TT K 0 F_checked_curves 2) := by
  have nd := sc_checked_curves.nd
  have hu65 : ∀ {k A}, Room k A → A.units + 65 < cLine := fun r => by have := r.un; omega
  refine def_ofX F sc_checked_curves (fun _ _ _ _ _ _ us hl => match us, hl with | [_, _], _ => rfl) (fun vs H Q E h => len_E h) (fun cdv A outer s H vs Q E hr h => ⟨_, (pss_cons (ps_if (PW.pt (pw_or (pt_not (pt_val (pe_callD D_is_list hr (by decide) rfl pass0 (pa_cons (pv 0) pa_nil)))) (pw_or1 (pt_cmpR op_lt (pe_callB call_len_seq (by rfl) T.fr_len bb_len (pa_cons (pv 0) pa_nil)) (pv 1) (nomark _))))) (pss_one (ps_raiseX X_BadCurves sc_BadCurves rfl rfl (.inl rfl) (.inl rfl) (fun _ _ _ _ _ _ _ us hl => match us, hl with | [_, _], _ => rfl) rfl rfl (takes_of rfl rfl rfl rfl) (hr.mono (by decide)) rfl pe_int rfl rfl)) pss_nil)
    (pss_cons (ps_for (passes_of rfl) rfl (pi_enumS rfl T.fr_enumerate (pv 0)) (pg_tup rfl (pgs_cons (pg_name (i := 2) nd rfl (Or.inl rfl)) (pgs_cons (pg_name (i := 3) nd rfl (Or.inl rfl)) pgs_nil))) (pss_one (ps_if (pt_not (pt_val (pe_callD D_is_curve_thing hr (by decide) rfl pass0 (pa_cons (pv 3) pa_nil)))) (pss_one (ps_raiseX X_BadCurves sc_BadCurves rfl rfl (.inl rfl) (.inl rfl) (fun _ _ _ _ _ _ _ us hl => match us, hl with | [_, _], _ => rfl) rfl rfl (takes_of rfl rfl rfl rfl) (hr.mono (by decide)) rfl (pv 2) rfl rfl)) pss_nil)))
    (pss_one (ps_ret (pe_lc (own := [("curve", 4)]) (g := (gName 4)) (tt := tYes) (te := (tCall (spR TT K 0 F_as_told 1) [] (fun _ _ _ => False) (tCons (tVar 4) tNil))) rfl nd (pi_seq (pv 0)) (blkOk_by (N := N_checked_curves) (sc := defScope (top 45)) (own := [("curve", 4)]) (by decide +kernel)) (fun _ _ _ _ _ => (pg_name (i := 4) nd rfl (Or.inl rfl))) (fun _ _ _ _ _ => pts_nil) (fun _ _ _ _ _ => (pe_callD D_as_told hr (by decide) rfl pass0 (pa_cons (pv 4) pa_nil)))))))), read_E ?_ h⟩)
  rintro S ds O (⟨x, es, us, n, rfl, e, hp, hn, hl, rfl⟩ | ⟨x, n, rfl, hx, hlt, rfl⟩ | ⟨x, pre, us, y, suf, n, rfl, hx, e, hn, hp, hy, hh, rfl⟩) _
  · have hcl : cleanAll es = true := by
      clear e hn hl
      induction hp with
      | nil => rfl
      | cons h _ ih => simp [cleanAll, h.raw.clean, ih]
    have hx : clean x = true := clean_of e hcl
    have c1 : F_is_list [x] (.bool (isListD x)) := ⟨x, rfl, clean_strm hx, rfl⟩
    refine hasS_0 (hasS_seqif (c2 := 0) (c3 := 0) (hast_or (hast_not (hast_B (has_call (has_cons (has_var rfl) has_nil) rfl c1))) fun _ => hast_test (has_b2 (has_len (has_var rfl) e) (has_var rfl))) (fun hq => ?_) fun hq => hasS_seq_next (hasS_0 (hasS_seq (c1 := 0 + es.zipIdx.length * 0) (Γ1 := [some (tyD _ x), some (tyD _ (.int n)), none, none, none]) (A1 := [])
      (hasS_for es.zipIdx (fun p => .tuple [.int (p.2 : Nat), p.1]) (fun _ => [some (tyD _ x), some (tyD _ (.int n)), none, none, none]) (fun _ => []) (i_enumS (has_var rfl) e) (.same (.same (.drop (.drop (.drop .nil))))) rfl (fun _ => rfl) (fun p q s ex => ⟨_, _, g_tup (gs_cons g_name (gs_cons g_name gs_nil)) rfl, ?_⟩) fun Γ' w => ⟨w, rfl⟩)
      (hasS_ret (has_conv (has_map (c := 0) es (fun y => y) (fun y => encU (tld (uOf y))) (i_conv (i_seq (has_var rfl) e) (by simp)) (by omega) fun y hy => ?_) (by rw [paired_map hp fun a b h => by rw [uOf_raw h.raw]])))) (by simp))) (by simp)
    · rw [isListD, e] at hq
      simp at hq; omega
    · have hq : q.1 ∈ es := List.fst_mem_of_mem_zipIdx (show q ∈ es.zipIdx by rw [ex]; simp)
      obtain ⟨u, _, hu⟩ := paired_mem hp q.1 hq
      refine hasS_0 (hasS_if (c2 := 0) (c3 := 0) (hast_not (hast_B (has_call (has_cons (has_var rfl) has_nil) rfl ⟨q.1, rfl, hu.raw.clean, .inl ⟨u, hu.raw, hu.crv, hu.len, rfl⟩⟩))) (fun hb => ?_) fun hb => hasS_next ⟨.same (.same (.drop (.drop (.drop .nil)))), rfl⟩) rfl
      cases hb
    · obtain ⟨u, _, hu⟩ := paired_mem hp y hy
      refine ⟨_, _, g_name, by simp, ?_⟩
      rw [uOf_raw hu.raw]
      exact has_le (has_callU (has_cons (has_var rfl) has_nil) rfl ⟨y, u, rfl, hu.raw, hu.crv, hu.len, rfl⟩ (τc := .none)) (by simp)
  · have c1 : F_is_list [x] (.bool (isListD x)) := ⟨x, rfl, clean_strm hx, rfl⟩
    cases e : seqD x with
    | none =>
      refine hasR_0 (hasR_seq1 (hasR_if (c2 := 0) (c3 := 0) (hast_or (c2 := 0) (b' := true) (hast_not (hast_B (has_call (has_cons (has_var rfl) has_nil) rfl c1))) fun hq => ?_) (fun hq => hasR_raise rfl has_int) fun hq => ?_)) rfl
      · rw [isListD, e] at hq; cases hq
      · rw [isListD, e] at hq; cases hq
    | some es =>
      have := hlt es e
      refine hasR_0 (hasR_seq1 (hasR_if (c2 := 0) (c3 := 0) (hast_or (hast_not (hast_B (has_call (has_cons (has_var rfl) has_nil) rfl c1))) fun _ => hast_test (has_b2 (has_len (has_var rfl) e) (has_var rfl))) (fun hq => hasR_raise rfl has_int) fun hq => ?_)) rfl
      rw [isListD, e] at hq
      simp at hq; omega
  · have c1 : F_is_list [x] (.bool (isListD x)) := ⟨x, rfl, clean_strm hx, rfl⟩
    have ez : (pre ++ y :: suf).zipIdx = pre.zipIdx ++ (y, pre.length) :: suf.zipIdx (pre.length + 1) := by rw [List.zipIdx_append, List.zipIdx_cons]; simp
    refine hasR_0 (hasR_pass (c2 := 0) (hast_or (hast_not (hast_B (has_call (has_cons (has_var rfl) has_nil) rfl c1))) fun _ => hast_test (has_b2 (has_len (has_var rfl) e) (has_var rfl))) ?_ (hasR_seq1 (hasR_0 (hasR_for pre.zipIdx (suf.zipIdx (pre.length + 1)) (y, pre.length) (fun p => .tuple [.int (p.2 : Nat), p.1]) (fun _ => [some (tyD _ x), some (tyD _ (.int n)), none, none, none])
      (i_conv (i_enumS (has_var rfl) e) (by rw [ez])) (.same (.same (.drop (.drop (.drop .nil))))) (fun p q s ex => ⟨_, _, g_tup (gs_cons g_name (gs_cons g_name gs_nil)) rfl, ?_⟩) ⟨_, _, g_tup (gs_cons g_name (gs_cons g_name gs_nil)) rfl, ?_⟩) rfl))) rfl
    · rw [isListD, e]
      simp at hn ⊢; omega
    · have hq : q.1 ∈ pre := List.fst_mem_of_mem_zipIdx (show q ∈ pre.zipIdx by rw [ex]; simp)
      obtain ⟨u, _, hu⟩ := paired_mem hp q.1 hq
      refine hasS_0 (hasS_if (c2 := 0) (c3 := 0) (hast_not (hast_B (has_call (has_cons (has_var rfl) has_nil) rfl ⟨q.1, rfl, hu.raw.clean, .inl ⟨u, hu.raw, hu.crv, hu.len, rfl⟩⟩))) (fun hb => ?_) fun hb => hasS_next ⟨.same (.same (.drop (.drop (.drop .nil)))), rfl⟩) rfl
      cases hb
    · refine hasR_0 (hasR_if (c2 := 0) (c3 := 0) (hast_not (hast_B (has_call (has_cons (has_var rfl) has_nil) rfl ⟨y, rfl, hy, .inr ⟨hh, rfl⟩⟩))) (fun hb => hasR_raise rfl (has_var rfl)) fun hb => ?_) rfl
      cases hb
end
end Q6
end
section
set_option maxHeartbeats 4000000
set_option exponentiation.threshold 20000
namespace Q6
open PySem PySem.Spec PyProof.Rows L2 LamX RZ Qk
/-- found = ..; for x in xs: found = f(found, x); return found: the last result, new -/
theorem hasS_foldU {C : Cf} {c1 : Nat} {Γ : Cxt} {wi : TI} {i j : Nat} {E : XK} {F : List PyData → Res → Prop} {α : Type} (xs : List α) (enc : α → PyData) (cs : List α → List PyData) (sd : List α → PyData) (hij : i ≠ j) (hjl : j < Γ.length)
    (hi : HasI C c1 wi Γ (fun l => l = xs.map enc)) (h0 : Γ[i]? = some (some (tyD C (.tuple [.list (cs []), sd []])))) (hn : xs ≠ [])
    (hs : ∀ pre x suf, xs = pre ++ x :: suf → F [.tuple [.list (cs pre), sd pre], enc x] (rU (cs (pre ++ [x])) (sd (pre ++ [x])))) :
    HasS C c1 (tSeq (tFor wi (gName j) (tAsg (tCall (spR C.T C.K 0 F 2) [] E (tCons (tVar i) (tCons (tVar j) tNil))) (gName i))) (tRet (tVar i))) Γ [] nvr (rU (cs xs) (sd xs)) := fun M0 H0 N k σ H D a q r =>
  hi _ k σ H _ a.ok a.sat fun J H1 ds g1 o1 eds w => by
    subst eds
    have a1 := a.gos g1 o1
    have len : (xs.map enc).length = xs.length := by simp
    refine for_it (w M0) (fun t σ H => t ≤ xs.length ∧ ∃ Γ', At0 C k M0 H0 (hide M0 H1) [] Γ' σ H ∧ Γ'.length = Γ.length ∧ Γ'[i]? = some (some (tyD C (.tuple [.list (cs (xs.take t)), sd (xs.take t)]))) ∧ (0 < t → ∃ v, σ[i]? = some (some v) ∧ rU (cs (xs.take t)) (sd (xs.take t)) C M0 H0 v H)) ?_ ?_ ?_ ?_
    · exact ⟨Nat.zero_le _, Γ, ⟨a1.ok, a1.ok0, a1.gone, ExtN.refl _, a1.own, a1.nd, a1.sat⟩, rfl, by simpa using h0, fun z => absurd z (Nat.lt_irrefl _)⟩
    · rintro t σ2 H2 _ ⟨_, Γ', a2, _⟩
      exact ⟨a2.kept, a2.ok.dom⟩
    · rintro t v σ2 H2 H3 ht ⟨_, Γ', a2, hl, hg, _⟩ ⟨hh, d, hd, p⟩
      have hlt : t < xs.length := by rw [len] at ht; exact ht
      have g3 : go C H2 H3 ∧ Ok C k (([] : Own).map (·.1) ++ M0) H3 := by
        rcases hh with z | ⟨T, o, hT, z⟩
        · subst z; exact ⟨go.refl _, a2.ok⟩
        · subst z; exact ⟨go.new hT, a2.ok.new hT⟩
      have a3 := a2.gos g3.1 g3.2
      have ed : enc xs[t] = d := by
        rw [List.getElem?_map, List.getElem?_eq_getElem hlt] at hd
        exact Option.some.inj hd
      subst ed
      have hsplit : xs = xs.take t ++ xs[t] :: xs.drop (t + 1) := by rw [List.getElem_cons_drop, List.take_append_drop]
      have htake : xs.take t ++ [xs[t]] = xs.take (t + 1) := by rw [List.take_succ, List.getElem?_eq_getElem hlt]; rfl
      have hF := hs _ _ _ hsplit
      rw [htake] at hF
      have a4 : At0 C k M0 H0 (hide M0 H1) [] (Γ'.set j (some (tyD C (enc xs[t])))) (σ2.set j (some v)) H3 := a3.step (go.refl _) a3.ok (a3.sat.set p)
      have vi : (Γ'.set j (some (tyD C (enc xs[t]))))[i]? = some (some (tyD C (.tuple [.list (cs (xs.take t)), sd (xs.take t)]))) := by rw [List.getElem?_set_ne (Ne.symm hij)]; exact hg
      have vj : (Γ'.set j (some (tyD C (enc xs[t]))))[j]? = some (some (tyD C (enc xs[t]))) := List.getElem?_set_self (by rw [hl]; exact hjl)
      unfold tAsg tCall gName
      refine (has_cons (has_var vi) (has_cons (has_var vj) has_nil)) M0 k (σ2.set j (some v)) H3 _ a4.ok a4.sat fun vs H4 es g4 o4 e4 p4 => ?_
      subst e4
      refine ⟨C.S, M0, k, _, _, by rw [List.append_nil, dA_len p4]; rfl, o4, by rw [List.append_nil]; exact p4, hF, fun v5 H5 g5 o5 p5 => ?_⟩
      have a5 := (a4.gos g4 o4).gos g5 o5
      have il : i < Γ'.length := by
        rcases Nat.lt_or_ge i Γ'.length with z | z
        · exact z
        · rw [List.getElem?_eq_none z] at hg; cases hg
      refine ⟨hlt, (Γ'.set j (some (tyD C (enc xs[t])))).set i (some (tyD C (.tuple [.list (cs (xs.take (t + 1))), sd (xs.take (t + 1))]))), a5.step (go.refl _) a5.ok (a5.sat.set (rU_dq p5)), by simp [hl], List.getElem?_set_self (by simpa using il), fun _ => ⟨v5, List.getElem?_set_self (by rw [← a4.sat.1]; simpa using il), ?_⟩⟩
      obtain ⟨p, l, us, sv, e, h1, h2, h3, h4, h5, h6⟩ := p5
      exact ⟨p, l, us, sv, e, newAt_back (a4.gos g4 o4).gone (fun z => h2 (o4.sub _ z)) h1, h2, h3, h4, h5, h6⟩
    · rintro σ2 H2 ⟨_, Γ', a2, _, _, hv⟩
      rw [len] at hv
      obtain ⟨v, hv1, hv2⟩ := hv (List.length_pos_iff.mpr hn)
      rw [List.take_length] at hv2
      exact ⟨v, hv1, r v H2 a2.gone a2.ok0 hv2⟩
section
variable {P : Program} {w : World} {K : PySem.W.Frag} {mg : Str → Option Value} {base : Heap} {TT : List (Addr × Str)}
/-- the curves handed in -/
structure Givens (x : PyData) (us : List Cur) : Prop where
  ex : ∃ es, seqD x = some es ∧ Paired Given es us ∧ es.length ≤ 50000
theorem Givens.chk {x : PyData} {us : List Cur} {n : Nat} (g : Givens x us) (hn : n ≤ us.length) : F_checked_curves [x, .int n] (.ok (rD (.list ((us.map tld).map encU)))) := by
  obtain ⟨es, e, hp, hl⟩ := g.ex
  exact .inl ⟨x, es, us, n, rfl, e, hp, by rw [paired_len hp]; exact hn, hl, by rw [List.map_map]; rfl⟩
def F_added (ds : List PyData) (O : Out) : Prop := (∃ x us, ds = [x] ∧ Givens x us ∧ SumOk (us.map tld) ∧ O = .ok (rU ((summed (us.map tld)).1.map encK) (encF (summed (us.map tld)).2))) ∨ ∃ x iv, ds = [x] ∧ F_checked_curves [x, .int 0] (.err "BadCurves" "index" iv) ∧ O = .err "BadCurves" "index" iv
abbrev N_added : List Str := ["curves"]
abbrev P_added : List Str := ["curves"]
theorem sc_added : FnScope N_added P_added (defScope (top 46)) := ⟨rfl, rfl, rfl, by decide +kernel, rfl, by decide +kernel, by decide +kernel⟩
theorem ok_added (T : Txt mg) (O : OddOk K) (D_summed : Def P w K mg base CX0 6 "summed" P_summed (spR TT K 0 F_summed 1)) (D_checked_curves : Def P w K mg base (L2.CX P w) 7 "checked_curves" P_checked_curves (spE TT K 0 F_checked_curves 2)) (F : At K mg "added" 46) : Def P w K mg base (L2.CX P w) 8 "added" P_added (spE TT K 0 F_added 1) := by
  have nd := sc_added.nd
  have hu65 : ∀ {k A}, Room k A → A.units + 65 < cLine := fun r => by have := r.un; omega
  refine def_ofX F sc_added (fun _ _ _ _ _ _ us hl => match us, hl with | [_], _ => rfl) (fun vs H Q E h => len_E h) (fun cdv A outer s H vs Q E hr h => ⟨_, (pss_one (ps_ret (pe_callD D_summed hr (by decide) rfl pass0 (pa_cons (pe_callD D_checked_curves hr (by decide) rfl (passes_call (takes_of rfl rfl rfl rfl) fun _ _ _ _ h => h) (pa_cons (pv 0) (pa_cons pe_int pa_nil))) pa_nil)))), read_E ?_ h⟩)
  rintro S ds O (⟨x, us, rfl, hg, hs, rfl⟩ | ⟨x, iv, rfl, he, rfl⟩) _
  · exact hasS_0 (hasS_retCU (has_cons (has_callD (has_cons (has_var rfl) (has_cons has_int has_nil)) rfl (hg.chk (n := 0) (Nat.zero_le _))) has_nil) rfl ⟨_, rfl, hs, rfl⟩) rfl
  · exact hasR_0 (hasR_ret (hasER_callA (hasAR_here (hasER_call (has_cons (has_var rfl) (has_cons has_int has_nil)) rfl he)))) rfl
/-- what a fold of two asks at each step -/
structure FoldOk (w : Bool) (cs : List Cur) : Prop where
  one : ∀ c ∈ cs, Fin c
  fin : ∀ pre suf, cs = pre ++ suf → Fin (pre.foldl (fun f y => chosen f y w) (cs.headD ([], 0)))
  len : ∀ pre x suf, cs = pre ++ x :: suf → (pre.foldl (fun f y => chosen f y w) (cs.headD ([], 0))).1.length + x.1.length ≤ 450
  mts : ∀ pre x suf, cs = pre ++ x :: suf → ∀ z ∈ meets (pre.foldl (fun f y => chosen f y w) (cs.headD ([], 0))) x (joint0 (pre.foldl (fun f y => chosen f y w) (cs.headD ([], 0))) x), Sz 400 z
theorem foldC_eq {w : Bool} {cs : List Cur} (hn : cs ≠ []) : foldC w cs = cs.foldl (fun f y => chosen f y w) (cs.headD ([], 0)) := by
  cases cs with
  | nil => exact absurd rfl hn
  | cons c r => rfl
def F_fold (w : Bool) (ds : List PyData) (O : Out) : Prop := (∃ x us, ds = [x] ∧ Givens x us ∧ us ≠ [] ∧ FoldOk w (us.map tld) ∧ O = .ok (rU ((foldC w (us.map tld)).1.map encK) (encF (foldC w (us.map tld)).2))) ∨ ∃ x iv, ds = [x] ∧ F_checked_curves [x, .int 1] (.err "BadCurves" "index" iv) ∧ O = .err "BadCurves" "index" iv
abbrev F_least_of := F_fold true
abbrev N_least_of : List Str := ["curves", "known", "found", "curve"]
abbrev P_least_of : List Str := ["curves"]
theorem sc_least_of : FnScope N_least_of P_least_of (defScope (top 47)) := ⟨rfl, rfl, rfl, by decide +kernel, rfl, by decide +kernel, by decide +kernel⟩
theorem ok_least_of (T : Txt mg) (O : OddOk K) (D_checked_curves : Def P w K mg base (L2.CX P w) 7 "checked_curves" P_checked_curves (spE TT K 0 F_checked_curves 2)) (D_least_two : Def P w K mg base CX0 9 "least_two" P_least_two (spR TT K 0 F_least_two 2)) (F : At K mg "least_of" 47) : Def P w K mg base (L2.CX P w) 10 "least_of" P_least_of (spE TT K 0 F_least_of 1) := by
  have nd := sc_least_of.nd
  have hu65 : ∀ {k A}, Room k A → A.units + 65 < cLine := fun r => by have := r.un; omega
  refine def_ofX F sc_least_of (fun _ _ _ _ _ _ us hl => match us, hl with | [_], _ => rfl) (fun vs H Q E h => len_E h) (fun cdv A outer s H vs Q E hr h => ⟨_, (pss_cons (ps_set (i := 1) nd rfl (Or.inl rfl) (pe_callD D_checked_curves hr (by decide) rfl (passes_call (takes_of rfl rfl rfl rfl) fun _ _ _ _ h => h) (pa_cons (pv 0) (pa_cons pe_int pa_nil))))
    (pss_cons (ps_set (i := 2) nd rfl (Or.inl rfl) (pe_ix ix_seq (pv 1) pe_int (fun _ _ => rfl)))
    (pss_cons (ps_for (passes_of rfl) rfl (pi_seq (pv 1)) (pg_name (i := 3) nd rfl (Or.inl rfl)) (pss_one (ps_set (i := 2) nd rfl (Or.inl rfl) (pe_callD D_least_two hr (by decide) rfl pass0 (pa_cons (pv 2) (pa_cons (pv 3) pa_nil))))))
    (pss_one (ps_ret (pv 2)))))), read_E ?_ h⟩)
  rintro S ds O (⟨x, us, rfl, hg, hn, hf, rfl⟩ | ⟨x, iv, rfl, he, rfl⟩) _
  · have hn' : us.map tld ≠ [] := by simpa using hn
    rw [foldC_eq hn']
    have hlen : 1 ≤ us.length := by
      cases us with
      | nil => exact absurd rfl hn
      | cons a b => simp
    have hh : (us.map tld).map encU = encU ((us.map tld).headD ([], 0)) :: ((us.map tld).tail).map encU := by
      cases us with
      | nil => exact absurd rfl hn
      | cons a b => rfl
    generalize hcs : us.map tld = cs at *
    exact hasS_0 (hasS_seq_set (has_callD (has_cons (has_var rfl) (has_cons has_int has_nil)) rfl (by have := hg.chk (n := 1) hlen; rw [hcs] at this; exact this)) (hasS_seq_set (has_ix (has_var rfl) has_int rfl (by rw [hh]; exact at_0))
      (hasS_foldU cs encU (fun pre => (pre.foldl (fun f y => chosen f y true) (cs.headD ([], 0))).1.map encK) (fun pre => encF (pre.foldl (fun f y => chosen f y true) (cs.headD ([], 0))).2) (by decide) (by show 3 < 4; decide) (i_seq (has_var rfl) rfl) rfl hn' fun pre y suf ex => ⟨_, y, rfl, hf.fin pre _ ex, hf.one y (by rw [ex]; simp), hf.len pre y suf ex, hf.mts pre y suf ex, by rw [List.foldl_append]; rfl⟩))) rfl
  · exact hasR_0 (hasR_seq1 (hasR_asg (hasER_call (has_cons (has_var rfl) (has_cons has_int has_nil)) rfl he))) rfl
abbrev F_greatest_of := F_fold false
abbrev N_greatest_of : List Str := ["curves", "known", "found", "curve"]
abbrev P_greatest_of : List Str := ["curves"]
theorem sc_greatest_of : FnScope N_greatest_of P_greatest_of (defScope (top 48)) := ⟨rfl, rfl, rfl, by decide +kernel, rfl, by decide +kernel, by decide +kernel⟩
theorem ok_greatest_of (T : Txt mg) (O : OddOk K) (D_checked_curves : Def P w K mg base (L2.CX P w) 7 "checked_curves" P_checked_curves (spE TT K 0 F_checked_curves 2)) (D_greatest_two : Def P w K mg base CX0 9 "greatest_two" P_greatest_two (spR TT K 0 F_greatest_two 2)) (F : At K mg "greatest_of" 48) : Def P w K mg base (L2.CX P w) 10 "greatest_of" P_greatest_of (spE TT K 0 F_greatest_of 1) := by
  have nd := sc_greatest_of.nd
  have hu65 : ∀ {k A}, Room k A → A.units + 65 < cLine := fun r => by have := r.un; omega
  refine def_ofX F sc_greatest_of (fun _ _ _ _ _ _ us hl => match us, hl with | [_], _ => rfl) (fun vs H Q E h => len_E h) (fun cdv A outer s H vs Q E hr h => ⟨_, (pss_cons (ps_set (i := 1) nd rfl (Or.inl rfl) (pe_callD D_checked_curves hr (by decide) rfl (passes_call (takes_of rfl rfl rfl rfl) fun _ _ _ _ h => h) (pa_cons (pv 0) (pa_cons pe_int pa_nil))))
    (pss_cons (ps_set (i := 2) nd rfl (Or.inl rfl) (pe_ix ix_seq (pv 1) pe_int (fun _ _ => rfl)))
    (pss_cons (ps_for (passes_of rfl) rfl (pi_seq (pv 1)) (pg_name (i := 3) nd rfl (Or.inl rfl)) (pss_one (ps_set (i := 2) nd rfl (Or.inl rfl) (pe_callD D_greatest_two hr (by decide) rfl pass0 (pa_cons (pv 2) (pa_cons (pv 3) pa_nil))))))
    (pss_one (ps_ret (pv 2)))))), read_E ?_ h⟩)
  rintro S ds O (⟨x, us, rfl, hg, hn, hf, rfl⟩ | ⟨x, iv, rfl, he, rfl⟩) _
  · have hn' : us.map tld ≠ [] := by simpa using hn
    rw [foldC_eq hn']
    have hlen : 1 ≤ us.length := by
      cases us with
      | nil => exact absurd rfl hn
      | cons a b => simp
    have hh : (us.map tld).map encU = encU ((us.map tld).headD ([], 0)) :: ((us.map tld).tail).map encU := by
      cases us with
      | nil => exact absurd rfl hn
      | cons a b => rfl
    generalize hcs : us.map tld = cs at *
    exact hasS_0 (hasS_seq_set (has_callD (has_cons (has_var rfl) (has_cons has_int has_nil)) rfl (by have := hg.chk (n := 1) hlen; rw [hcs] at this; exact this)) (hasS_seq_set (has_ix (has_var rfl) has_int rfl (by rw [hh]; exact at_0))
      (hasS_foldU cs encU (fun pre => (pre.foldl (fun f y => chosen f y false) (cs.headD ([], 0))).1.map encK) (fun pre => encF (pre.foldl (fun f y => chosen f y false) (cs.headD ([], 0))).2) (by decide) (by show 3 < 4; decide) (i_seq (has_var rfl) rfl) rfl hn' fun pre y suf ex => ⟨_, y, rfl, hf.fin pre _ ex, hf.one y (by rw [ex]; simp), hf.len pre y suf ex, hf.mts pre y suf ex, by rw [List.foldl_append]; rfl⟩))) rfl
  · exact hasR_0 (hasR_seq1 (hasR_asg (hasER_call (has_cons (has_var rfl) (has_cons has_int has_nil)) rfl he))) rfl
theorem Given.chk {x : PyData} {u : Cur} (g : Given x u) : F_checked_curve [x] (.ok (rU ((tld u).1.map encK) (encF (tld u).2))) := .inl ⟨x, u, rfl, g.raw, g.crv, g.len, rfl⟩
def F_scaled (ds : List PyData) (O : Out) : Prop := (∃ x y u f, ds = [x, y] ∧ Given x u ∧ rawF y f ∧ TimesOk (tld u) f ∧ O = .ok (rU ((timesC f (tld u)).1.map encK) (encF (timesC f (tld u)).2))) ∨
  (∃ x y, ds = [x, y] ∧ clean x = true ∧ headOk x = false ∧ O = .err "BadCurve" "thing" x) ∨ ∃ x y u, ds = [x, y] ∧ Given x u ∧ clean y = true ∧ isFracD y = false ∧ O = .err "BadFraction" "thing" y
abbrev N_scaled : List Str := ["curve", "factor", "known"]
abbrev P_scaled : List Str := ["curve", "factor"]
theorem sc_scaled : FnScope N_scaled P_scaled (defScope (top 49)) := ⟨rfl, rfl, rfl, by decide +kernel, rfl, by decide +kernel, by decide +kernel⟩
theorem ok_scaled (T : Txt mg) (O : OddOk K) (D_checked_curve : Def P w K mg base (L2.CX P w) 7 "checked_curve" P_checked_curve (spE TT K 0 F_checked_curve 1)) (D_many_times : Def P w K mg base CX0 6 "many_times" P_many_times (spR TT K 0 F_many_times 2)) (D_checked_fraction : Def P w K mg base (L2.CX P w) 4 "checked_fraction" P_checked_fraction (spE TT K 0 F_checked_fraction 1)) (F : At K mg "scaled" 49) : Def P w K mg base (L2.CX P w) 8 "scaled" P_scaled (spE TT K 0 F_scaled 2) := by
  have nd := sc_scaled.nd
  have hu65 : ∀ {k A}, Room k A → A.units + 65 < cLine := fun r => by have := r.un; omega
  refine def_ofX F sc_scaled (fun _ _ _ _ _ _ us hl => match us, hl with | [_, _], _ => rfl) (fun vs H Q E h => len_E h) (fun cdv A outer s H vs Q E hr h => ⟨_, (pss_cons (ps_set (i := 2) nd rfl (Or.inl rfl) (pe_callD D_checked_curve hr (by decide) rfl (passes_call (takes_of rfl rfl rfl rfl) fun _ _ _ _ h => h) (pa_cons (pv 0) pa_nil)))
    (pss_one (ps_ret (pe_callD D_many_times hr (by decide) rfl pass0 (pa_cons (pv 2) (pa_cons (pe_callD D_checked_fraction hr (by decide) rfl (passes_call (takes_of rfl rfl rfl rfl) fun _ _ _ _ h => h) (pa_cons (pv 1) pa_nil)) pa_nil)))))), read_E ?_ h⟩)
  rintro S ds O (⟨x, y, u, f, rfl, hx, hy, ht, rfl⟩ | ⟨x, y, rfl, hx, hh, rfl⟩ | ⟨x, y, u, rfl, hx, hy, hf, rfl⟩) _
  · exact hasS_0 (hasS_seq_set (has_callOU (has_cons (has_var rfl) has_nil) rfl hx.chk) (hasS_retCU (has_cons (has_var rfl) (has_cons (has_callD (has_cons (has_var rfl) has_nil) rfl (.inl ⟨y, f, rfl, hy, rfl⟩)) has_nil)) rfl ht.F)) rfl
  · exact hasR_0 (hasR_seq1 (hasR_asg (hasER_call (has_cons (has_var rfl) has_nil) rfl (.inr ⟨x, rfl, hx, hh, rfl⟩)))) rfl
  · exact hasR_0 (hasR_seq (R := rNo) (hasS_set (has_callOU (has_cons (has_var rfl) has_nil) rfl hx.chk) to_here) (fun _ _ _ _ z => z) (hasR_ret (hasER_callA (hasAR_next (has_var rfl) (hasAR_here (hasER_call (has_cons (has_var rfl) has_nil) rfl (.inr ⟨y, rfl, hy, hf, rfl⟩))))))) rfl
def F_difference (ds : List PyData) (O : Out) : Prop := (∃ x y u v, ds = [x, y] ∧ Given x u ∧ Given y v ∧ TimesOk (tld v) (-1) ∧ SumOk [tld u, timesC (-1) (tld v)] ∧ O = .ok (rU ((apart (tld u) (tld v)).1.map encK) (encF (apart (tld u) (tld v)).2))) ∨
  (∃ x y, ds = [x, y] ∧ clean x = true ∧ headOk x = false ∧ O = .err "BadCurve" "thing" x) ∨ ∃ x y u, ds = [x, y] ∧ Given x u ∧ clean y = true ∧ headOk y = false ∧ O = .err "BadCurve" "thing" y
abbrev N_difference : List Str := ["one", "other", "known"]
abbrev P_difference : List Str := ["one", "other"]
theorem sc_difference : FnScope N_difference P_difference (defScope (top 50)) := ⟨rfl, rfl, rfl, by decide +kernel, rfl, by decide +kernel, by decide +kernel⟩
theorem ok_difference (T : Txt mg) (O : OddOk K) (D_checked_curve : Def P w K mg base (L2.CX P w) 7 "checked_curve" P_checked_curve (spE TT K 0 F_checked_curve 1)) (D_apart_by : Def P w K mg base CX0 7 "apart_by" P_apart_by (spR TT K 0 F_apart_by 2)) (F : At K mg "difference" 50) : Def P w K mg base (L2.CX P w) 8 "difference" P_difference (spE TT K 0 F_difference 2) := by
  have nd := sc_difference.nd
  have hu65 : ∀ {k A}, Room k A → A.units + 65 < cLine := fun r => by have := r.un; omega
  refine def_ofX F sc_difference (fun _ _ _ _ _ _ us hl => match us, hl with | [_, _], _ => rfl) (fun vs H Q E h => len_E h) (fun cdv A outer s H vs Q E hr h => ⟨_, (pss_cons (ps_set (i := 2) nd rfl (Or.inl rfl) (pe_callD D_checked_curve hr (by decide) rfl (passes_call (takes_of rfl rfl rfl rfl) fun _ _ _ _ h => h) (pa_cons (pv 0) pa_nil)))
    (pss_one (ps_ret (pe_callD D_apart_by hr (by decide) rfl pass0 (pa_cons (pv 2) (pa_cons (pe_callD D_checked_curve hr (by decide) rfl (passes_call (takes_of rfl rfl rfl rfl) fun _ _ _ _ h => h) (pa_cons (pv 1) pa_nil)) pa_nil)))))), read_E ?_ h⟩)
  rintro S ds O (⟨x, y, u, v, rfl, hx, hy, ht, hs, rfl⟩ | ⟨x, y, rfl, hx, hh, rfl⟩ | ⟨x, y, u, rfl, hx, hy, hf, rfl⟩) _
  · exact hasS_0 (hasS_seq_set (has_callOU (has_cons (has_var rfl) has_nil) rfl hx.chk) (hasS_retCU (has_cons (has_var rfl) (has_cons (has_callOU (has_cons (has_var rfl) has_nil) rfl hy.chk) has_nil)) rfl ⟨tld u, tld v, rfl, ht, hs, rfl⟩)) rfl
  · exact hasR_0 (hasR_seq1 (hasR_asg (hasER_call (has_cons (has_var rfl) has_nil) rfl (.inr ⟨x, rfl, hx, hh, rfl⟩)))) rfl
  · exact hasR_0 (hasR_seq (R := rNo) (hasS_set (has_callOU (has_cons (has_var rfl) has_nil) rfl hx.chk) to_here) (fun _ _ _ _ z => z) (hasR_ret (hasER_callA (hasAR_next (has_var rfl) (hasAR_here (hasER_call (has_cons (has_var rfl) has_nil) rfl (.inr ⟨y, rfl, hy, hf, rfl⟩))))))) rfl
end
end Q6
end
section
set_option maxHeartbeats 4000000
set_option exponentiation.threshold 2000000
namespace Q6
open PySem PySem.Spec PyProof.Rows L2 LamX RZ Qk
theorem hasS_par {C : Cf} {Γ : Cxt} {A : Own} {B : Post} {R : Res} {c : Nat} {i j : Nat} {ta : TA} {x y : PyData} (h : HasA C c ta Γ (fun l => l = [x, y])) (hb : B ((Γ.set i (some (tyD C x))).set j (some (tyD C y))) A) : HasS C c (tPar i j ta) Γ A B R := fun M0 H0 N k σ H D a q r =>
  h _ k σ H _ a.ok a.sat fun vs H1 ds g1 o1 e p => by
    subst e
    cases p with
    | cons p1 p =>
      cases p with
      | cons p2 p =>
        cases p
        exact ⟨_, _, rfl, q _ _ _ _ hb (a.step g1 o1 (((a.sat.ext (g1.k a.ok)).set p1).set p2))⟩
theorem rsel_t1 {x y : Rat} (h : y < x) : rsel true x y = y := by unfold rsel; rw [if_pos rfl, if_pos h]
theorem rsel_t2 {x y : Rat} (h : ¬ y < x) : rsel true x y = x := by unfold rsel; rw [if_pos rfl, if_neg h]
theorem rsel_f1 {x y : Rat} (h : x < y) : rsel false x y = y := by unfold rsel; rw [if_neg Bool.false_ne_true, if_pos h]
theorem rsel_f2 {x y : Rat} (h : ¬ x < y) : rsel false x y = x := by unfold rsel; rw [if_neg Bool.false_ne_true, if_neg h]
/-! ### while -/
theorem hasS_while {C : Cf} {A : Own} {B : Post} {R : Res} {tc : TT} {tb : TS} {α : Type} (inv : α → Cxt) (b : α → Bool) (nx fin : α → α) (μ : α → Nat) (s0 : α) {Γ : Cxt} (h0 : Wk Γ (inv s0)) (ht : ∀ s, HasT C 0 tc (inv s) (fun x => x = b s)) (hb : ∀ s, b s = true → HasS C 0 tb (inv s) A (to (inv (nx s)) A) R) (hm : ∀ s, b s = true → μ (nx s) < μ s)
    (f1 : ∀ s, b s = true → fin s = fin (nx s)) (f0 : ∀ s, b s = false → fin s = s) (hB : ∀ Γ', Wk Γ' (inv (fin s0)) → B Γ' A) : HasS C 0 (tWhile tc tb) Γ A B R := fun M0 H0 N k σ H D a q r => by
  refine ⟨fun m σ H => ∃ s, m = μ s ∧ fin s = fin s0 ∧ ∃ Γ', Wk Γ' (inv s) ∧ At0 C k M0 H0 N A Γ' σ H, ⟨_, s0, rfl, rfl, Γ, h0, a⟩, ?_⟩
  rintro m σ2 H2 ⟨s, rfl, hf, Γ', hw, a2⟩
  refine ht s _ k σ2 H2 _ a2.ok (a2.sat.wk hw) fun x H3 g3 o3 e => ?_
  have a3 := (a2.wk hw).gos g3 o3
  subst e
  cases hbs : b s with
  | true =>
    rw [if_pos rfl]
    refine ⟨fun σ' H' => ∃ Γ', Wk Γ' (inv (nx s)) ∧ At0 C k M0 H0 N A Γ' σ' H', fun σ' H' ⟨Γ4, w4, a4⟩ => ⟨μ (nx s), hm s hbs, nx s, rfl, by rw [← f1 s hbs]; exact hf, Γ4, w4, a4⟩, ?_⟩
    exact hb s hbs M0 H0 N k σ2 H3 _ a3 (fun Γ4 A4 σ4 H4 ⟨w4, e4⟩ a4 => by subst e4; exact ⟨Γ4, w4, a4⟩) r
  | false =>
    rw [if_neg Bool.false_ne_true]
    exact q _ _ _ _ (hB _ (Wk.refl _)) (by rw [← hf, f0 s hbs]; exact a3)
mutual
/-- no list within -/
def noList : PyData → Bool
  | .list _ => false
  | .tuple ds => noListAll ds
  | .dict _ => false
  | _ => true
def noListAll : List PyData → Bool
  | [] => true
  | d :: ds => noList d && noListAll ds
end
mutual
theorem dq_avoid {C : Cf} {M : List Addr} {H : Hp} {l : Addr} {xs : List V} (hl : H l = some (.lst xs)) : ∀ {v : V} {d : PyData}, Dq C (hide M H) v d → noList d = true → Dq C (hide (l :: M) H) v d
  | _, _, .non, _ => .non
  | _, _, .bl b, _ => .bl b
  | _, _, .int i, _ => .int i
  | _, _, .str x, _ => .str x
  | _, _, .tup h r, n => .tup (by
      obtain ⟨h1, h2⟩ := hide_some h
      rw [hide_out fun z => by
        rcases List.mem_cons.mp z with e | e
        · rw [e, hl] at h2; cases h2
        · exact h1 e]
      exact h2) (dqA_avoid hl r (by simpa [noList] using n))
theorem dqA_avoid {C : Cf} {M : List Addr} {H : Hp} {l : Addr} {xs : List V} (hl : H l = some (.lst xs)) : ∀ {vs : List V} {ds : List PyData}, DqAll C (hide M H) vs ds → noListAll ds = true → DqAll C (hide (l :: M) H) vs ds
  | _, _, .nil, _ => .nil
  | _, _, .cons h r, n => by
    simp only [noListAll, Bool.and_eq_true] at n
    exact .cons (dq_avoid hl h n.1) (dqA_avoid hl r n.2)
end
/-- l.extend(e), e may read l -/
theorem hasS_extend_peek {C : Cf} {Γ : Cxt} {te : TE} {ds es : List PyData} {c : Nat} {A : Own} {B : Post} {R : Res} {n : Nat} {l : Addr} (hg : Γ[n]? = some (some (tyV (.ref l)))) (h : HasE C c te (Γ.set n (some (tyD C (.list ds)))) (tyD C (.list es))) (hnl : noListAll es = true) (hz : ds.length + es.length ≤ 100000) (hb : B Γ ((l, ds ++ es) :: A)) :
    HasS C c (tDrop (tBM C.K "list" rExtend (tVar n) (tCons te tNil))) Γ ((l, ds) :: A) B R := fun M0 H0 N k σ H D a q r => by
  obtain ⟨v, e1, e2⟩ := a.sat.2 n _ hg
  have e2 : v = .ref l := e2
  subst e2
  obtain ⟨_, hn, xs, hx, hr⟩ := a.own (l, ds) (List.mem_cons_self ..)
  have a0 := own_drop hg a
  refine ⟨.ref l, e1, .inl ⟨rfl, _, sqL_of hx⟩, h _ k σ H _ a0.ok a0.sat fun y H1 g1 o1 p => ?_⟩
  have o2 : Ok C k (((l, ds) :: A).map (·.1) ++ M0) H1 := ⟨fun b hb => by
    rcases List.mem_cons.mp hb with e | e
    · subst e
      exact ⟨xs, g1.at (fun z => hn (a.ok0.sub _ z)) hx (fun ps z => by cases z)⟩
    · exact o1.dom b e, o1.tabs, a.ok.sub, o1.str⟩
  have a1 := a.gos g1 o2
  have hx1 : H1 l = some (.lst xs) := g1.at (fun z => hn (a.ok0.sub _ z)) hx (fun ps z => by cases z)
  have hr1 := hr.ext (g1.k a.ok)
  obtain ⟨b2, zs, eb, hb2, rz⟩ := d_lst p
  have rz1 : DqAll C (hide (((l, ds) :: A).map (·.1) ++ M0) H1) zs es := dqA_avoid hx1 rz hnl
  refine ⟨l, b2, xs, zs, rfl, by rw [eb], hx1, (hide_some hb2).2, ?_, q _ _ _ _ hb (own_put a1 (List.mem_cons_self ..) hx1 (dA_app hr1 rz1) rfl fun p hp => ?_)⟩
  · rw [dA_len hr, dA_len rz]; exact small_line hz
  · rcases List.mem_cons.mp hp with e | e
    · exact .inl e
    · refine .inr ⟨fun z => ?_, List.mem_cons_of_mem _ e⟩
      have nd := List.nodup_cons.mp a.nd
      exact nd.1 (by rw [← z]; exact List.mem_map.mpr ⟨p, e, rfl⟩)
theorem noL_encF (l : List Rat) : noListAll (l.map encF) = true := by
  induction l with
  | nil => rfl
  | cons q l ih => simp [noListAll, encF, noList] at ih ⊢; exact ih
theorem noL_encK (l : List Cor) : noListAll (l.map encK) = true := by
  induction l with
  | nil => rfl
  | cons q l ih => simp [noListAll, encK, encF, noList] at ih ⊢; exact ih
section
variable {P : Program} {w : World} {K : PySem.W.Frag} {mg : Str → Option Value} {base : Heap} {TT : List (Addr × Str)}
def F_l_common (ds : List PyData) (d : PyData) : Prop := ∃ n m : Int, ds = [.int n, .int m] ∧ d = .int (Nat.gcd n.natAbs m.natAbs : Nat)
abbrev N_l_common : List Str := ["_law_one", "_law_other"]
abbrev P_l_common : List Str := ["_law_one", "_law_other"]
theorem sc_l_common : FnScope N_l_common P_l_common (defScope (top 57)) := ⟨rfl, rfl, rfl, by decide +kernel, rfl, by decide +kernel, by decide +kernel⟩
theorem ok_l_common (T : Txt mg) (O : OddOk K) (F : At K mg "_law_common" 57) : Def P w K mg base CX0 1 "_law_common" P_l_common (spD TT K F_l_common 2) := by
  have nd := sc_l_common.nd
  have hu65 : ∀ {k A}, Room k A → A.units + 65 < cLine := fun r => by have := r.un; omega
  refine def_of0 F sc_l_common (fun _ _ _ _ _ _ us hl => match us, hl with | [_, _], _ => rfl) (fun vs H Q E h => len_R h) (fun cdv A outer s H vs Q E hr h => ⟨_, (pss_cons (ps_par (i := 0) (j := 1) (by rfl) nd rfl rfl (by decide) rfl rfl (pa_cons (pe_callB call_abs (by rfl) T.fr_abs bb_abs (pa_cons (pv 0) pa_nil)) (pa_cons (pe_callB call_abs (by rfl) T.fr_abs bb_abs (pa_cons (pv 1) pa_nil)) pa_nil)) (by rfl))
    (pss_cons (ps_while PassesOwn.never (pt_cmpR op_gt (pv 1) pe_int (nomark _)) (pss_one (ps_par (i := 0) (j := 1) (by rfl) nd rfl rfl (by decide) rfl rfl (pa_cons (pv 1) (pa_cons (pe_op op_mod (pv 0) (pv 1)) pa_nil)) (by rfl))))
    (pss_one (ps_ret (pv 0))))), read_D ?_ h⟩)
  rintro S ds d ⟨n, m, rfl, rfl⟩ _
  refine hasS_0 (hasS_seq_par (has_cons (has_abs (has_var rfl)) (has_cons (has_abs (has_var rfl)) has_nil)) (hasS_seq (Γ1 := [some (tyD _ (.int (Nat.gcd n.natAbs m.natAbs : Nat))), none]) (A1 := [])
    (hasS_while (fun s : Nat × Nat => [some (tyD _ (.int (s.1 : Nat))), some (tyD _ (.int (s.2 : Nat)))]) (fun s => decide ((0 : Int) < (s.2 : Nat))) (fun s => (s.2, s.1 % s.2)) (fun s => (Nat.gcd s.1 s.2, 0)) (fun s => s.2) (n.natAbs, m.natAbs) (.same (.same .nil))
      (fun s => hast_test (has_b2 (has_var rfl) has_int)) (fun s hb => ?_) (fun s hb => ?_) (fun s hb => ?_) (fun s hb => ?_) fun Γ' w => ⟨?_, rfl⟩)
    (hasS_ret (has_var rfl)))) rfl
  · have h0 : (0 : Int) < (s.2 : Nat) := of_decide_eq_true hb
    exact hasS_0 (hasS_par (has_cons (has_var rfl) (has_cons (has_conv (has_ic h0 (has_var rfl) (has_var rfl)) (by rw [← Int.natCast_emod])) has_nil)) ⟨.same (.same .nil), rfl⟩) rfl
  · have h0 : (0 : Int) < (s.2 : Nat) := of_decide_eq_true hb
    exact Nat.mod_lt _ (by omega)
  · show (Nat.gcd s.1 s.2, 0) = (Nat.gcd s.2 (s.1 % s.2), 0)
    rw [Nat.gcd_comm s.1 s.2, Nat.gcd_rec s.2 s.1, Nat.gcd_comm]
  · have h0 : ¬ (0 : Int) < (s.2 : Nat) := of_decide_eq_false hb
    have h2 : s.2 = 0 := by omega
    obtain ⟨a, b⟩ := s
    simp only at h2
    subst h2
    simp
  · cases w with
    | same w => exact .same (by cases w with
      | same w => exact .drop w
      | sub _ w => exact .drop w)
    | sub h w => exact .sub h (by cases w with
      | same w => exact .drop w
      | sub _ w => exact .drop w)
abbrev F_l_low := F_lowest
abbrev N_l_low : List Str := ["_law_top", "_law_bottom", "_law_common_here"]
abbrev P_l_low : List Str := ["_law_top", "_law_bottom"]
theorem sc_l_low : FnScope N_l_low P_l_low (defScope (top 58)) := ⟨rfl, rfl, rfl, by decide +kernel, rfl, by decide +kernel, by decide +kernel⟩
theorem ok_l_low (T : Txt mg) (O : OddOk K) (D_l_common : Def P w K mg base CX0 1 "_law_common" P_l_common (spD TT K F_l_common 2)) (F : At K mg "_law_low" 58) : Def P w K mg base CX0 2 "_law_low" P_l_low (spD TT K F_l_low 2) := by
  have nd := sc_l_low.nd
  have hu65 : ∀ {k A}, Room k A → A.units + 65 < cLine := fun r => by have := r.un; omega
  refine def_of0 F sc_l_low (fun _ _ _ _ _ _ us hl => match us, hl with | [_, _], _ => rfl) (fun vs H Q E h => len_R h) (fun cdv A outer s H vs Q E hr h => ⟨_, (pss_cons (ps_set (i := 2) nd rfl (Or.inl rfl) (pe_ifExp (pt_cmpR op_gt (pv 1) pe_int (nomark _)) (pe_callD D_l_common hr (by decide) rfl pass0 (pa_cons (pv 0) (pa_cons (pv 1) pa_nil))) (pe_op op_sub pe_int (pe_callD D_l_common hr (by decide) rfl pass0 (pa_cons (pv 0) (pa_cons (pv 1) pa_nil))))))
    (pss_one (ps_ret (pe_tup (pa_cons (pe_op op_fdivW (pv 0) (pv 2)) (pa_cons (pe_op op_fdivW (pv 1) (pv 2)) pa_nil)))))), read_D ?_ h⟩)
  rintro S ds d ⟨n, m, rfl, hm, hz, rfl⟩ _
  have g0 : 0 < ((Nat.gcd n.natAbs m.natAbs : Nat) : Int) := by
    have : 0 < Nat.gcd n.natAbs m.natAbs := Nat.gcd_pos_of_pos_right _ (by omega)
    omega
  have gz : CDivW 0 ((Nat.gcd n.natAbs m.natAbs : Nat) : Int) := wide_div g0 (b := 9000) (Nat.lt_of_le_of_lt (by
    have := Nat.le_of_dvd (by omega) (Nat.gcd_dvd_right n.natAbs m.natAbs)
    omega) hz) (by decide) (by decide)
  obtain ⟨e1, e2⟩ := low_num (n := n) hm
  unfold encF
  rw [e1, e2]
  refine hasS_0 (hasS_seq_set (τ2 := tyD _ (.int ((Nat.gcd n.natAbs m.natAbs : Nat) : Int))) (has_if (c3 := 0) (hast_test (has_b2 (has_var rfl) has_int)) (fun _ => has_call (has_cons (has_var rfl) (has_cons (has_var rfl) has_nil)) rfl ⟨n, m, rfl, rfl⟩) fun hq => ?_) (hasS_ret (has_tup (has_cons (has_ic gz (has_var rfl) (has_var rfl)) (has_cons (has_ic gz (has_var rfl) (has_var rfl)) has_nil)) (by simp)))) rfl
  exact absurd (decide_eq_true hm) (by rw [hq]; decide)
abbrev F_l_plus := F_plus
abbrev N_l_plus : List Str := ["_law_one", "_law_other"]
abbrev P_l_plus : List Str := ["_law_one", "_law_other"]
theorem sc_l_plus : FnScope N_l_plus P_l_plus (defScope (top 59)) := ⟨rfl, rfl, rfl, by decide +kernel, rfl, by decide +kernel, by decide +kernel⟩
theorem ok_l_plus (T : Txt mg) (O : OddOk K) (D_l_low : Def P w K mg base CX0 2 "_law_low" P_l_low (spD TT K F_l_low 2)) (F : At K mg "_law_plus" 59) : Def P w K mg base CX0 3 "_law_plus" P_l_plus (spD TT K F_l_plus 2) := by
  have nd := sc_l_plus.nd
  have hu65 : ∀ {k A}, Room k A → A.units + 65 < cLine := fun r => by have := r.un; omega
  refine def_of0 F sc_l_plus (fun _ _ _ _ _ _ us hl => match us, hl with | [_, _], _ => rfl) (fun vs H Q E h => len_R h) (fun cdv A outer s H vs Q E hr h => ⟨_, (pss_one (ps_ret (pe_callD D_l_low hr (by decide) rfl pass0 (pa_cons (pe_op op_add (pe_op op_mulW (pe_ix ix_seq (pv 0) pe_int (fun _ _ => rfl)) (pe_ix ix_seq (pv 1) pe_int (fun _ _ => rfl))) (pe_op op_mulW (pe_ix ix_seq (pv 1) pe_int (fun _ _ => rfl)) (pe_ix ix_seq (pv 0) pe_int (fun _ _ => rfl)))) (pa_cons (pe_op op_mulW (pe_ix ix_seq (pv 0) pe_int (fun _ _ => rfl)) (pe_ix ix_seq (pv 1) pe_int (fun _ _ => rfl))) pa_nil))))), read_D ?_ h⟩)
  rintro S ds d ⟨p, q, rfl, hf, rfl⟩ _
  refine hasS_0 (hasS_ret (has_call (has_cons (has_i2 (has_ic ?_ (has_ix (has_var rfl) has_int rfl rfl) (has_ix (has_var rfl) has_int rfl rfl)) (has_ic ?_ (has_ix (has_var rfl) has_int rfl rfl) (has_ix (has_var rfl) has_int rfl rfl))) (has_cons (has_ic ?_ (has_ix (has_var rfl) has_int rfl rfl) (has_ix (has_var rfl) has_int rfl rfl)) has_nil)) rfl ?_)) rfl
  · exact hf.nd
  · exact hf.swap.nd
  · exact hf.dd
  · exact ⟨_, _, rfl, dd_pos p q, hf.ddlt, by rw [add_frac]⟩
abbrev F_l_less := F_less
abbrev N_l_less : List Str := ["_law_one", "_law_other"]
abbrev P_l_less : List Str := ["_law_one", "_law_other"]
theorem sc_l_less : FnScope N_l_less P_l_less (defScope (top 60)) := ⟨rfl, rfl, rfl, by decide +kernel, rfl, by decide +kernel, by decide +kernel⟩
theorem ok_l_less (T : Txt mg) (O : OddOk K) (D_l_low : Def P w K mg base CX0 2 "_law_low" P_l_low (spD TT K F_l_low 2)) (F : At K mg "_law_less" 60) : Def P w K mg base CX0 3 "_law_less" P_l_less (spD TT K F_l_less 2) := by
  have nd := sc_l_less.nd
  have hu65 : ∀ {k A}, Room k A → A.units + 65 < cLine := fun r => by have := r.un; omega
  refine def_of0 F sc_l_less (fun _ _ _ _ _ _ us hl => match us, hl with | [_, _], _ => rfl) (fun vs H Q E h => len_R h) (fun cdv A outer s H vs Q E hr h => ⟨_, (pss_one (ps_ret (pe_callD D_l_low hr (by decide) rfl pass0 (pa_cons (pe_op op_sub (pe_op op_mulW (pe_ix ix_seq (pv 0) pe_int (fun _ _ => rfl)) (pe_ix ix_seq (pv 1) pe_int (fun _ _ => rfl))) (pe_op op_mulW (pe_ix ix_seq (pv 1) pe_int (fun _ _ => rfl)) (pe_ix ix_seq (pv 0) pe_int (fun _ _ => rfl)))) (pa_cons (pe_op op_mulW (pe_ix ix_seq (pv 0) pe_int (fun _ _ => rfl)) (pe_ix ix_seq (pv 1) pe_int (fun _ _ => rfl))) pa_nil))))), read_D ?_ h⟩)
  rintro S ds d ⟨p, q, rfl, hf, rfl⟩ _
  refine hasS_0 (hasS_ret (has_call (has_cons (has_i2 (has_ic ?_ (has_ix (has_var rfl) has_int rfl rfl) (has_ix (has_var rfl) has_int rfl rfl)) (has_ic ?_ (has_ix (has_var rfl) has_int rfl rfl) (has_ix (has_var rfl) has_int rfl rfl))) (has_cons (has_ic ?_ (has_ix (has_var rfl) has_int rfl rfl) (has_ix (has_var rfl) has_int rfl rfl)) has_nil)) rfl ?_)) rfl
  · exact hf.nd
  · exact hf.swap.nd
  · exact hf.dd
  · exact ⟨_, _, rfl, dd_pos p q, hf.ddlt, by rw [sub_frac]⟩
abbrev F_l_times := F_times
abbrev N_l_times : List Str := ["_law_one", "_law_other"]
abbrev P_l_times : List Str := ["_law_one", "_law_other"]
theorem sc_l_times : FnScope N_l_times P_l_times (defScope (top 61)) := ⟨rfl, rfl, rfl, by decide +kernel, rfl, by decide +kernel, by decide +kernel⟩
theorem ok_l_times (T : Txt mg) (O : OddOk K) (D_l_low : Def P w K mg base CX0 2 "_law_low" P_l_low (spD TT K F_l_low 2)) (F : At K mg "_law_times" 61) : Def P w K mg base CX0 3 "_law_times" P_l_times (spD TT K F_l_times 2) := by
  have nd := sc_l_times.nd
  have hu65 : ∀ {k A}, Room k A → A.units + 65 < cLine := fun r => by have := r.un; omega
  refine def_of0 F sc_l_times (fun _ _ _ _ _ _ us hl => match us, hl with | [_, _], _ => rfl) (fun vs H Q E h => len_R h) (fun cdv A outer s H vs Q E hr h => ⟨_, (pss_one (ps_ret (pe_callD D_l_low hr (by decide) rfl pass0 (pa_cons (pe_op op_mulW (pe_ix ix_seq (pv 0) pe_int (fun _ _ => rfl)) (pe_ix ix_seq (pv 1) pe_int (fun _ _ => rfl))) (pa_cons (pe_op op_mulW (pe_ix ix_seq (pv 0) pe_int (fun _ _ => rfl)) (pe_ix ix_seq (pv 1) pe_int (fun _ _ => rfl))) pa_nil))))), read_D ?_ h⟩)
  rintro S ds d ⟨p, q, rfl, hf, rfl⟩ _
  refine hasS_0 (hasS_ret (has_call (has_cons (has_ic ?_ (has_ix (has_var rfl) has_int rfl rfl) (has_ix (has_var rfl) has_int rfl rfl)) (has_cons (has_ic ?_ (has_ix (has_var rfl) has_int rfl rfl) (has_ix (has_var rfl) has_int rfl rfl)) has_nil)) rfl ?_)) rfl
  · exact hf.nn
  · exact hf.dd
  · exact ⟨_, _, rfl, dd_pos p q, hf.ddlt, by rw [mul_frac]⟩
def F_l_by (ds : List PyData) (d : PyData) : Prop := ∃ p q, ds = [encF p, encF q] ∧ Fit p q ∧ 0 < q ∧ d = encF (p / q)
abbrev N_l_by : List Str := ["_law_one", "_law_other"]
abbrev P_l_by : List Str := ["_law_one", "_law_other"]
theorem sc_l_by : FnScope N_l_by P_l_by (defScope (top 62)) := ⟨rfl, rfl, rfl, by decide +kernel, rfl, by decide +kernel, by decide +kernel⟩
theorem ok_l_by (T : Txt mg) (O : OddOk K) (D_l_low : Def P w K mg base CX0 2 "_law_low" P_l_low (spD TT K F_l_low 2)) (F : At K mg "_law_by" 62) : Def P w K mg base CX0 3 "_law_by" P_l_by (spD TT K F_l_by 2) := by
  have nd := sc_l_by.nd
  have hu65 : ∀ {k A}, Room k A → A.units + 65 < cLine := fun r => by have := r.un; omega
  refine def_of0 F sc_l_by (fun _ _ _ _ _ _ us hl => match us, hl with | [_, _], _ => rfl) (fun vs H Q E h => len_R h) (fun cdv A outer s H vs Q E hr h => ⟨_, (pss_one (ps_ret (pe_callD D_l_low hr (by decide) rfl pass0 (pa_cons (pe_op op_mulW (pe_ix ix_seq (pv 0) pe_int (fun _ _ => rfl)) (pe_ix ix_seq (pv 1) pe_int (fun _ _ => rfl))) (pa_cons (pe_op op_mulW (pe_ix ix_seq (pv 0) pe_int (fun _ _ => rfl)) (pe_ix ix_seq (pv 1) pe_int (fun _ _ => rfl))) pa_nil))))), read_D ?_ h⟩)
  rintro S ds d ⟨p, q, rfl, hf, hq, rfl⟩ _
  have hn : 0 < q.num := by have := (lt_frac 0 q).mpr hq; simpa using this
  have hne : q ≠ 0 := fun z => by rw [z] at hq; exact absurd hq (by decide)
  refine hasS_0 (hasS_ret (has_call (has_cons (has_ic ?_ (has_ix (has_var rfl) has_int rfl rfl) (has_ix (has_var rfl) has_int rfl rfl)) (has_cons (has_ic ?_ (has_ix (has_var rfl) has_int rfl rfl) (has_ix (has_var rfl) has_int rfl rfl)) has_nil)) rfl ?_)) rfl
  · exact hf.nd
  · exact hf.dn
  · exact ⟨_, _, rfl, Int.mul_pos (den_pos p) hn, hf.dnlt, by rw [div_frac p q hne]⟩
abbrev F_l_is_below := F_is_below
abbrev N_l_is_below : List Str := ["_law_one", "_law_other"]
abbrev P_l_is_below : List Str := ["_law_one", "_law_other"]
theorem sc_l_is_below : FnScope N_l_is_below P_l_is_below (defScope (top 63)) := ⟨rfl, rfl, rfl, by decide +kernel, rfl, by decide +kernel, by decide +kernel⟩
theorem ok_l_is_below (T : Txt mg) (O : OddOk K) (F : At K mg "_law_is_below" 63) : Def P w K mg base CX0 1 "_law_is_below" P_l_is_below (spD TT K F_l_is_below 2) := by
  have nd := sc_l_is_below.nd
  have hu65 : ∀ {k A}, Room k A → A.units + 65 < cLine := fun r => by have := r.un; omega
  refine def_of0 F sc_l_is_below (fun _ _ _ _ _ _ us hl => match us, hl with | [_, _], _ => rfl) (fun vs H Q E h => len_R h) (fun cdv A outer s H vs Q E hr h => ⟨_, (pss_one (ps_ret (pe_cmpR op_lt (pe_op op_mulW (pe_ix ix_seq (pv 0) pe_int (fun _ _ => rfl)) (pe_ix ix_seq (pv 1) pe_int (fun _ _ => rfl))) (pe_op op_mulW (pe_ix ix_seq (pv 1) pe_int (fun _ _ => rfl)) (pe_ix ix_seq (pv 0) pe_int (fun _ _ => rfl))) (nomark _)))), read_D ?_ h⟩)
  rintro S ds d ⟨x, y, n, m, n', m', rfl, e1, e2, h1, h2, rfl⟩ _
  exact hasS_0 (hasS_ret (has_b2 (has_ic h1 (has_ix (has_var rfl) has_int e1 rfl) (has_ix (has_var rfl) has_int e2 rfl)) (has_ic h2 (has_ix (has_var rfl) has_int e2 rfl) (has_ix (has_var rfl) has_int e1 rfl)))) rfl
def F_sel (w : Bool) (ds : List PyData) (d : PyData) : Prop := ∃ l : List Rat, ds = [.list (l.map encF)] ∧ l ≠ [] ∧ (∀ q ∈ l, Sz 4000 q) ∧ d = encF (selL w l)
theorem sel_mem (w : Bool) : ∀ (l : List Rat) (x : Rat), l.foldl (rsel w) x = x ∨ l.foldl (rsel w) x ∈ l
  | [], _ => .inl rfl
  | y :: l, x => by
    rw [List.foldl_cons]
    have hr : rsel w x y = x ∨ rsel w x y = y := by
      unfold rsel
      split <;> split <;> simp
    rcases sel_mem w l (rsel w x y) with h | h
    · rcases hr with e | e
      · rw [h, e]; exact .inl rfl
      · rw [h, e]; exact .inr (List.mem_cons_self ..)
    · exact .inr (List.mem_cons_of_mem _ h)
abbrev F_l_least := F_sel true
abbrev N_l_least : List Str := ["_law_things", "_law_found", "_law_thing"]
abbrev P_l_least : List Str := ["_law_things"]
theorem sc_l_least : FnScope N_l_least P_l_least (defScope (top 64)) := ⟨rfl, rfl, rfl, by decide +kernel, rfl, by decide +kernel, by decide +kernel⟩
theorem ok_l_least (T : Txt mg) (O : OddOk K) (D_l_is_below : Def P w K mg base CX0 1 "_law_is_below" P_l_is_below (spD TT K F_l_is_below 2)) (F : At K mg "_law_least" 64) : Def P w K mg base CX0 2 "_law_least" P_l_least (spD TT K F_l_least 1) := by
  have nd := sc_l_least.nd
  have hu65 : ∀ {k A}, Room k A → A.units + 65 < cLine := fun r => by have := r.un; omega
  refine def_of0 F sc_l_least (fun _ _ _ _ _ _ us hl => match us, hl with | [_], _ => rfl) (fun vs H Q E h => len_R h) (fun cdv A outer s H vs Q E hr h => ⟨_, (pss_cons (ps_set (i := 1) nd rfl (Or.inl rfl) (pe_ix ix_seq (pv 0) pe_int (fun _ _ => rfl)))
    (pss_cons (ps_for PassesOwn.never rfl (pi_seq (pv 0)) (pg_name (i := 2) nd rfl (Or.inl rfl)) (pss_one (ps_set (i := 1) nd rfl (Or.inl rfl) (pe_ifExp (pt_val (pe_callD D_l_is_below hr (by decide) rfl pass0 (pa_cons (pv 2) (pa_cons (pv 1) pa_nil)))) (pv 2) (pv 1)))))
    (pss_one (ps_ret (pv 1))))), read_D ?_ h⟩)
  rintro S ds d ⟨l, rfl, hn, hz, rfl⟩ _
  obtain ⟨x, r, rfl⟩ : ∃ x r, l = x :: r := by
    cases l with
    | nil => exact absurd rfl hn
    | cons x r => exact ⟨x, r, rfl⟩
  show HasS _ _ _ _ _ _ (rD (encF ((x :: r).foldl (rsel true) x)))
  refine hasS_0 (c := 0 + 0 + (0 + (x :: r).length * 0 + 0)) (hasS_seq_set (has_ix (has_var rfl) has_int rfl at_0) (hasS_seq (Γ1 := [some (tyD _ (.list ((x :: r).map encF))), some (tyD _ (encF ((x :: r).foldl (rsel true) x))), none]) (A1 := [])
    (hasS_for (x :: r) encF (fun pre => [some (tyD _ (.list ((x :: r).map encF))), some (tyD _ (encF (pre.foldl (rsel true) x))), none]) (fun _ => []) (i_seq (has_var rfl) rfl) (.same (.same (.drop .nil))) rfl (fun _ => rfl) (fun pre y suf ex => ⟨_, _, g_name, ?_⟩) fun Γ' w => ⟨w, rfl⟩)
    (hasS_ret (has_var rfl)))) (by simp)
  have hy : Sz 4000 y := hz y (by rw [ex]; simp)
  have hf : Sz 4000 (pre.foldl (rsel true) x) := by
    rcases sel_mem true pre x with e | e
    · rw [e]; exact hz x (by simp)
    · exact hz _ (by rw [ex]; simp [e])
  refine hasS_0 (hasS_set (τ := tyD _ (encF ((pre ++ [y]).foldl (rsel true) x))) (has_if (c2 := 0) (c3 := 0) (hast_B (has_call (has_cons (has_var rfl) (has_cons (has_var rfl) has_nil)) rfl (below_F (fit hy hf (by decide))))) (fun hq => ?_) fun hq => ?_) ⟨.same (.same (.drop .nil)), rfl⟩) rfl
  · have hq : y < pre.foldl (rsel true) x := of_decide_eq_true hq
    rw [List.foldl_append, List.foldl_cons, List.foldl_nil]
    rw [rsel_t1 hq]; exact has_var rfl
  · have hq : ¬ y < pre.foldl (rsel true) x := of_decide_eq_false hq
    rw [List.foldl_append, List.foldl_cons, List.foldl_nil]
    rw [rsel_t2 hq]; exact has_var rfl
abbrev F_l_greatest := F_sel false
abbrev N_l_greatest : List Str := ["_law_things", "_law_found", "_law_thing"]
abbrev P_l_greatest : List Str := ["_law_things"]
theorem sc_l_greatest : FnScope N_l_greatest P_l_greatest (defScope (top 65)) := ⟨rfl, rfl, rfl, by decide +kernel, rfl, by decide +kernel, by decide +kernel⟩
theorem ok_l_greatest (T : Txt mg) (O : OddOk K) (D_l_is_below : Def P w K mg base CX0 1 "_law_is_below" P_l_is_below (spD TT K F_l_is_below 2)) (F : At K mg "_law_greatest" 65) : Def P w K mg base CX0 2 "_law_greatest" P_l_greatest (spD TT K F_l_greatest 1) := by
  have nd := sc_l_greatest.nd
  have hu65 : ∀ {k A}, Room k A → A.units + 65 < cLine := fun r => by have := r.un; omega
  refine def_of0 F sc_l_greatest (fun _ _ _ _ _ _ us hl => match us, hl with | [_], _ => rfl) (fun vs H Q E h => len_R h) (fun cdv A outer s H vs Q E hr h => ⟨_, (pss_cons (ps_set (i := 1) nd rfl (Or.inl rfl) (pe_ix ix_seq (pv 0) pe_int (fun _ _ => rfl)))
    (pss_cons (ps_for PassesOwn.never rfl (pi_seq (pv 0)) (pg_name (i := 2) nd rfl (Or.inl rfl)) (pss_one (ps_set (i := 1) nd rfl (Or.inl rfl) (pe_ifExp (pt_val (pe_callD D_l_is_below hr (by decide) rfl pass0 (pa_cons (pv 1) (pa_cons (pv 2) pa_nil)))) (pv 2) (pv 1)))))
    (pss_one (ps_ret (pv 1))))), read_D ?_ h⟩)
  rintro S ds d ⟨l, rfl, hn, hz, rfl⟩ _
  obtain ⟨x, r, rfl⟩ : ∃ x r, l = x :: r := by
    cases l with
    | nil => exact absurd rfl hn
    | cons x r => exact ⟨x, r, rfl⟩
  show HasS _ _ _ _ _ _ (rD (encF ((x :: r).foldl (rsel false) x)))
  refine hasS_0 (c := 0 + 0 + (0 + (x :: r).length * 0 + 0)) (hasS_seq_set (has_ix (has_var rfl) has_int rfl at_0) (hasS_seq (Γ1 := [some (tyD _ (.list ((x :: r).map encF))), some (tyD _ (encF ((x :: r).foldl (rsel false) x))), none]) (A1 := [])
    (hasS_for (x :: r) encF (fun pre => [some (tyD _ (.list ((x :: r).map encF))), some (tyD _ (encF (pre.foldl (rsel false) x))), none]) (fun _ => []) (i_seq (has_var rfl) rfl) (.same (.same (.drop .nil))) rfl (fun _ => rfl) (fun pre y suf ex => ⟨_, _, g_name, ?_⟩) fun Γ' w => ⟨w, rfl⟩)
    (hasS_ret (has_var rfl)))) (by simp)
  have hy : Sz 4000 y := hz y (by rw [ex]; simp)
  have hf : Sz 4000 (pre.foldl (rsel false) x) := by
    rcases sel_mem false pre x with e | e
    · rw [e]; exact hz x (by simp)
    · exact hz _ (by rw [ex]; simp [e])
  refine hasS_0 (hasS_set (τ := tyD _ (encF ((pre ++ [y]).foldl (rsel false) x))) (has_if (c2 := 0) (c3 := 0) (hast_B (has_call (has_cons (has_var rfl) (has_cons (has_var rfl) has_nil)) rfl (below_F (fit hf hy (by decide))))) (fun hq => ?_) fun hq => ?_) ⟨.same (.same (.drop .nil)), rfl⟩) rfl
  · have hq : pre.foldl (rsel false) x < y := of_decide_eq_true hq
    rw [List.foldl_append, List.foldl_cons, List.foldl_nil]
    rw [rsel_f1 hq]; exact has_var rfl
  · have hq : ¬ pre.foldl (rsel false) x < y := of_decide_eq_false hq
    rw [List.foldl_append, List.foldl_cons, List.foldl_nil]
    rw [rsel_f2 hq]; exact has_var rfl
def F_l_total (ds : List PyData) (d : PyData) : Prop := ∃ l : List Rat, ds = [.list (l.map encF)] ∧ (∀ q ∈ l, Sz 4000 q) ∧ (∀ pre suf, l = pre ++ suf → Sz 4000 (total pre)) ∧ d = encF (total l)
abbrev N_l_total : List Str := ["_law_things", "_law_found", "_law_thing"]
abbrev P_l_total : List Str := ["_law_things"]
theorem sc_l_total : FnScope N_l_total P_l_total (defScope (top 66)) := ⟨rfl, rfl, rfl, by decide +kernel, rfl, by decide +kernel, by decide +kernel⟩
theorem ok_l_total (T : Txt mg) (O : OddOk K) (D_l_plus : Def P w K mg base CX0 3 "_law_plus" P_l_plus (spD TT K F_l_plus 2)) (F : At K mg "_law_total" 66) : Def P w K mg base CX0 4 "_law_total" P_l_total (spD TT K F_l_total 1) := by
  have nd := sc_l_total.nd
  have hu65 : ∀ {k A}, Room k A → A.units + 65 < cLine := fun r => by have := r.un; omega
  refine def_of0 F sc_l_total (fun _ _ _ _ _ _ us hl => match us, hl with | [_], _ => rfl) (fun vs H Q E h => len_R h) (fun cdv A outer s H vs Q E hr h => ⟨_, (pss_cons (ps_set (i := 1) nd rfl (Or.inl rfl) (pe_tup (pa_cons pe_int (pa_cons pe_int pa_nil))))
    (pss_cons (ps_for PassesOwn.never rfl (pi_seq (pv 0)) (pg_name (i := 2) nd rfl (Or.inl rfl)) (pss_one (ps_set (i := 1) nd rfl (Or.inl rfl) (pe_callD D_l_plus hr (by decide) rfl pass0 (pa_cons (pv 1) (pa_cons (pv 2) pa_nil))))))
    (pss_one (ps_ret (pv 1))))), read_D ?_ h⟩)
  rintro S ds d ⟨l, rfl, hz, hp, rfl⟩ _
  refine hasS_0 (c := 0 + (0 + l.length * 0 + 0)) (hasS_seq_set (τ2 := tyD _ (encF 0)) (has_le (has_tup (has_cons has_int (has_cons has_int has_nil)) (by simp)) (by simp)) (hasS_seq (Γ1 := [some (tyD _ (.list (l.map encF))), some (tyD _ (encF (total l))), none]) (A1 := [])
    (hasS_for l encF (fun pre => [some (tyD _ (.list (l.map encF))), some (tyD _ (encF (total pre))), none]) (fun _ => []) (i_seq (has_var rfl) rfl) (.same (.same (.drop .nil))) rfl (fun _ => rfl) (fun pre y suf ex => ⟨_, _, g_name, ?_⟩) fun Γ' w => ⟨w, rfl⟩)
    (hasS_ret (has_var rfl)))) (by simp)
  refine hasS_0 (hasS_set (has_call (has_cons (has_var rfl) (has_cons (has_var rfl) has_nil)) rfl ⟨_, _, rfl, fit (hp pre _ ex) (hz y (by rw [ex]; simp)) (by decide), rfl⟩) ⟨?_, rfl⟩) rfl
  rw [total_snoc]
  exact .same (.same (.drop .nil))
end
end Q6
end
section
set_option maxHeartbeats 4000000
set_option exponentiation.threshold 2000000
namespace Q6
open PySem PySem.Spec PyProof.Rows L2 LamX RZ Qk
theorem noDict_encFs (l : List Rat) : noDictAll (l.map encF) = true := by
  induction l with
  | nil => rfl
  | cons q l ih => rw [List.map_cons]; show (noDict (encF q) && noDictAll (l.map encF)) = true; rw [ih]; rfl
theorem lay_encFs (l : List Rat) : PyData.canLayAll0 (l.map encF) = true := by
  induction l with
  | nil => rfl
  | cons q l ih => rw [List.map_cons]; show (PyData.canLay0 (encF q) && PyData.canLayAll0 (l.map encF)) = true; rw [ih]; rfl
theorem depth_encFs (l : List Rat) : PyData.depthAll (l.map encF) ≤ 2 := by
  induction l with
  | nil => exact Nat.zero_le _
  | cons q l ih =>
    have e : PyData.depth (encF q) = 1 := by simp [encF, PyData.depth, PyData.depthAll]
    rw [List.map_cons, PyData.depthAll, e]
    omega
theorem eqOk_encFs (l : List Rat) : eqOk (.list (l.map encF)) = true := by
  have h1 := noDict_encFs l
  have h2 := lay_encFs l
  have h3 := depth_encFs l
  unfold eqOk SeqAt.shaped
  simp only [noDict, PyData.canLay0, PyData.depth, h1, h2, Bool.true_and]
  exact decide_eq_true (by omega)
theorem any_encF (l : List Rat) (q : Rat) : (l.map encF).any (fun z => PyData.eqv z (encF q)) = decide (q ∈ l) := by
  induction l with
  | nil => rfl
  | cons a l ih =>
    rw [List.map_cons, List.any_cons, ih, eqv_encF, Bool.eq_iff_iff, Bool.or_eq_true, decide_eq_true_iff, decide_eq_true_iff, decide_eq_true_iff, List.mem_cons]
    exact ⟨fun z => z.imp_left Eq.symm, fun z => z.imp_left Eq.symm⟩
section
variable {P : Program} {w : World} {K : PySem.W.Frag} {mg : Str → Option Value} {base : Heap} {TT : List (Addr × Str)}
def F_l_unlike (ds : List PyData) (d : PyData) : Prop := ∃ l : List Rat, ds = [.list (l.map encF)] ∧ l.length ≤ 50000 ∧ d = .list ((uq l).map encF)
abbrev N_l_unlike : List Str := ["_law_things", "_law_found", "_law_thing"]
abbrev P_l_unlike : List Str := ["_law_things"]
theorem sc_l_unlike : FnScope N_l_unlike P_l_unlike (defScope (top 68)) := ⟨rfl, rfl, rfl, by decide +kernel, rfl, by decide +kernel, by decide +kernel⟩
theorem ok_l_unlike (T : Txt mg) (O : OddOk K) (F : At K mg "_law_unlike" 68) : Def P w K mg base CX0 1 "_law_unlike" P_l_unlike (spD TT K F_l_unlike 1) := by
  have nd := sc_l_unlike.nd
  have hu65 : ∀ {k A}, Room k A → A.units + 65 < cLine := fun r => by have := r.un; omega
  refine def_of0 F sc_l_unlike (fun _ _ _ _ _ _ us hl => match us, hl with | [_], _ => rfl) (fun vs H Q E h => len_R h) (fun cdv A outer s H vs Q E hr h => ⟨_, (pss_cons (ps_set (i := 1) nd rfl (Or.inl rfl) (pe_lst pa_nil))
    (pss_cons (ps_for PassesOwn.never rfl (pi_seq (pv 0)) (pg_name (i := 2) nd rfl (Or.inl rfl)) (pss_one (ps_expr (pe_bm PySem.F.plainAttrs_list PySem.F.slot_list_extend PySem.F.type_list_extend mt_extend (pv 1) (pa_cons (pe_ifExp (pt_cmpR (op_notInD (hu65 hr)) (pv 2) (pv 1) rfl) (pe_lst (pa_cons (pv 2) pa_nil)) (pe_lst pa_nil)) pa_nil)))))
    (pss_one (ps_ret (pv 1))))), read_D ?_ h⟩)
  rintro S ds d ⟨l, rfl, hl, rfl⟩ _
  refine hasS_0 (c := 0 + (0 + l.length * 0 + 0)) (hasS_seq_own (f_lst has_nil (by simp)) fun a es e => ?_) (by simp)
  subst e
  refine hasS_seq (Γ1 := [some (tyD ⟨K, TT, S⟩ (.list (l.map encF))), some (tyV (.ref a)), none]) (A1 := [(a, (uq l).map encF)])
    (hasS_for l encF (fun _ => [some (tyD ⟨K, TT, S⟩ (.list (l.map encF))), some (tyV (.ref a)), none]) (fun pre => [(a, (uq pre).map encF)]) (i_seq (has_var rfl) rfl) (.same (.same (.drop .nil))) rfl (fun _ => rfl) (fun pre y suf ex => ⟨_, _, g_name, ?_⟩) fun Γ' w => ⟨w, rfl⟩)
    (hasS_drop (n := 1) rfl (hasS_ret (has_var rfl)))
  have hpl := (uq_ok pre).2.2
  have hpl2 : pre.length ≤ 50000 := by rw [ex] at hl; simp at hl; omega
  have tst := has_if (c2 := 0) (c3 := 0) (C := ⟨K, TT, S⟩) (Γ := [some (tyD ⟨K, TT, S⟩ (.list (l.map encF))), some (tyD ⟨K, TT, S⟩ (.list ((uq pre).map encF))), some (tyD ⟨K, TT, S⟩ (encF y))]) (τ := tyD ⟨K, TT, S⟩ (.list (if y ∈ uq pre then [] else [encF y])))
    (hast_test (has_op (has_var (n := 2) rfl) (has_var (n := 1) rfl) (op_ninQ (eqOk_encF _) (eqOk_encFs _)))) (fun hq => has_le (has_conv (has_lst (has_cons (has_var (n := 2) rfl) has_nil) (by simp)) (by
      rw [any_encF] at hq
      rw [if_neg (by simpa using hq)])) (by simp)) (fun hq => has_le (has_conv (has_lst has_nil (by simp)) (by
      rw [any_encF] at hq
      rw [if_pos (by simpa using hq)])) (by simp))
  refine hasS_0 (hasS_extend_peek rfl tst ?_ ?_ ⟨.same (.same (.drop .nil)), ?_⟩) rfl
  · split <;> simp [noListAll, noList, encF]
  · have : (if y ∈ uq pre then ([] : List PyData) else [encF y]).length ≤ 1 := by split <;> simp
    simp at this ⊢; omega
  · rw [uq_snoc]
    split <;> simp
def F_l_by_size (ds : List PyData) (d : PyData) : Prop := ∃ l : List Rat, ds = [.list (l.map encF)] ∧ (∀ q ∈ l, Sz 1000 q) ∧ l.length ≤ 900 ∧ d = .list ((once l).map encF)
abbrev N_l_by_size : List Str := ["_law_things", "_law_unlike_here", "_law_common_here", "_law_thing"]
abbrev P_l_by_size : List Str := ["_law_things"]
theorem sc_l_by_size : FnScope N_l_by_size P_l_by_size (defScope (top 69)) := ⟨rfl, rfl, rfl, by decide +kernel, rfl, by decide +kernel, by decide +kernel⟩
theorem ok_l_by_size (T : Txt mg) (O : OddOk K) (D_l_unlike : Def P w K mg base CX0 1 "_law_unlike" P_l_unlike (spD TT K F_l_unlike 1)) (D_l_common : Def P w K mg base CX0 1 "_law_common" P_l_common (spD TT K F_l_common 2)) (F : AtL K mg base TT "_law_by_size" 69) : Def P w K mg base CX0 2 "_law_by_size" P_l_by_size (spD TT K F_l_by_size 1) := by
  have nd := sc_l_by_size.nd
  have hu65 : ∀ {k A}, Room k A → A.units + 65 < cLine := fun r => by have := r.un; omega
  refine def_ofL F sc_l_by_size (fun _ _ _ _ _ _ us hl => match us, hl with | [_], _ => rfl) (fun vs H Q E h => len_R h) (fun c Pt TB hmT hu A outer s H vs Q E hr h => ⟨_, (pss_cons (ps_asg (pe_tup (pa_cons (pe_callD D_l_unlike hr (by decide) rfl pass0 (pa_cons (pv 0) pa_nil)) (pa_cons pe_int pa_nil))) (pg_tup rfl (pgs_cons (pg_name (i := 1) nd rfl (Or.inl rfl)) (pgs_cons (pg_name (i := 2) nd rfl (Or.inr rfl)) pgs_nil))))
    (pss_cons (ps_for PassesOwn.never rfl (pi_seq (pv 1)) (pg_name (i := 3) nd rfl (Or.inl rfl)) (pss_one (ps_set (i := 2) nd rfl (Or.inr rfl) (pe_op op_fdivW (pe_op op_mulW (pv 2) (pe_ix ix_seq (pv 3) pe_int (fun _ _ => rfl))) (pe_callD D_l_common hr (by decide) rfl pass0 (pa_cons (pv 2) (pa_cons (pe_ix ix_seq (pv 3) pe_int (fun _ _ => rfl)) pa_nil)))))))
    (pss_one (ps_ret (pe_sortK (i := 2) rfl T.fr_sorted bb_sorted (pv 1) TB rfl hmT hu (hr.mono (by decide)) rfl (keyS_by (sc := defScope (top 69)) (by decide +kernel)) rfl rfl rfl rfl rfl (fun _ _ _ _ _ _ => rfl)))))), read_D ?_ h⟩)
  rintro S ds d ⟨l0, rfl, hz0, hl0, rfl⟩ _
  obtain ⟨hn, hm, hlu⟩ := uq_ok l0
  have ho : once l0 = once (uq l0) := once_eq sorted_once fun x => by rw [mem_once, hm]
  rw [ho]
  have hz : ∀ q ∈ uq l0, Sz 1000 q := fun q hq => hz0 q ((hm q).mp hq)
  have hl : (uq l0).length ≤ 900 := by omega
  have fits : ∀ pre : List Rat, (∀ q ∈ pre, Sz 1000 q) → pre.length ≤ 900 → ((cm pre : Nat) : Int).natAbs < 2 ^ 901000 := fun pre h1 h2 => by
    rw [Int.natAbs_natCast]
    exact Nat.lt_of_lt_of_le (cm_lt h1) (Nat.pow_le_pow_right (by decide) (by omega))
  have call : F_l_unlike [.list (l0.map encF)] (.list ((uq l0).map encF)) := ⟨l0, rfl, by omega, rfl⟩
  generalize uq l0 = l at *
  refine hasS_le (c1 := 0 + 0 + (0 + 0) + (0 + l.length * 0 + 0)) (hasS_seq_asg (has_tup (has_cons (has_call (has_cons (has_var rfl) has_nil) rfl call) (has_cons has_int has_nil)) (by simp)) (g_tup (gs_cons g_name (gs_cons g_name gs_nil)) rfl) (hasS_seq (Γ1 := [some (tyD ⟨K, TT, S⟩ (.list (l0.map encF))), some (tyD ⟨K, TT, S⟩ (.list (l.map encF))), some (tyD ⟨K, TT, S⟩ (.int (cm l : Nat))), none]) (A1 := [])
    (hasS_for l encF (fun pre => [some (tyD ⟨K, TT, S⟩ (.list (l0.map encF))), some (tyD ⟨K, TT, S⟩ (.list (l.map encF))), some (tyD ⟨K, TT, S⟩ (.int (cm pre : Nat))), none]) (fun _ => []) (i_seq (has_var rfl) rfl) (.same (.same (.same (.drop .nil)))) rfl (fun _ => rfl) (fun pre x suf ex => ⟨_, _, g_name, ?_⟩) fun Γ' w => ⟨w, rfl⟩)
    (hasS_ret (has_sortF (has_var rfl) rfl (by have := cm_pos l; omega) (fun q hq => Int.ofNat_dvd.mpr (cm_dvd hq)) (fun q hq => ⟨?_, ?_⟩) hn (by omega))))) (by simp)
  · have hp : ∀ q ∈ pre, Sz 1000 q := fun q hq => hz q (by rw [ex]; simp [hq])
    have hx : Sz 1000 x := hz x (by rw [ex]; simp)
    have hpl : pre.length ≤ 900 := by rw [ex] at hl; simp at hl; omega
    have hg0 : 0 < Nat.gcd (cm pre) x.den := Nat.gcd_pos_of_pos_right _ x.den_pos
    refine hasS_0 (hasS_set (has_conv (has_ic ?_ (has_ic ?_ (has_var rfl) (has_ix (has_var rfl) has_int rfl rfl)) (has_call (has_cons (has_var rfl) (has_cons (has_ix (has_var rfl) has_int rfl rfl) has_nil)) rfl ⟨_, _, rfl, rfl⟩)) ?_) ⟨.same (.same (.same (.drop .nil))), rfl⟩) rfl
    · rw [Int.natAbs_natCast, Int.natAbs_natCast]
      refine wide_div (by omega) (b := 1000) ?_ (by decide) (by decide)
      rw [Int.natAbs_natCast]
      exact Nat.lt_of_le_of_lt (Nat.le_of_dvd x.den_pos (Nat.gcd_dvd_right _ _)) hx.2
    · exact wide_mul (fits pre hp hpl) hx.dn (by decide) (by decide) (by decide)
    · rw [cm_snoc, Int.natAbs_natCast, Int.natAbs_natCast]
      unfold Nat.lcm
      congr 1
  · exact wide_div (by have := q.den_pos; omega) (hz q hq).dn (by decide) (by decide)
  · have h1 := fits l hz hl
    refine wide_mul (a := 1000) (b := 901000) (hz q hq).1 ?_ (by decide) (by decide) (by decide)
    have : (((cm l : Nat) : Int) / (q.den : Int)).natAbs ≤ ((cm l : Nat) : Int).natAbs := by
      rw [← Int.natCast_ediv, Int.natAbs_natCast, Int.natAbs_natCast]; exact Nat.div_le_self _ _
    omega
def F_l_middle (ds : List PyData) (d : PyData) : Prop := ∃ p q, ds = [encF p, encF q] ∧ Sz 3000 p ∧ Sz 3000 q ∧ d = encF ((p + q) * (1 / 2))
theorem half_enc : encF (1 / 2) = .tuple [.int 1, .int 2] := by
  have e : (1 / 2 : Rat) = ((1 : Int) : Rat) / ((2 : Int) : Rat) := by rfl
  obtain ⟨h1, h2⟩ := low_num (n := 1) (m := 2) (by decide)
  unfold encF
  rw [e, h1, h2]; rfl
theorem half_sz : Sz 2 (1 / 2 : Rat) := by
  have := sz_div (n := 1) (m := 2) (a := 2) (b := 2) (by decide) (by decide) (by decide)
  exact this
abbrev N_l_middle : List Str := ["_law_one", "_law_other"]
abbrev P_l_middle : List Str := ["_law_one", "_law_other"]
theorem sc_l_middle : FnScope N_l_middle P_l_middle (defScope (top 71)) := ⟨rfl, rfl, rfl, by decide +kernel, rfl, by decide +kernel, by decide +kernel⟩
theorem ok_l_middle (T : Txt mg) (O : OddOk K) (D_l_times : Def P w K mg base CX0 3 "_law_times" P_l_times (spD TT K F_l_times 2)) (D_l_plus : Def P w K mg base CX0 3 "_law_plus" P_l_plus (spD TT K F_l_plus 2)) (F : At K mg "_law_middle" 71) : Def P w K mg base CX0 4 "_law_middle" P_l_middle (spD TT K F_l_middle 2) := by
  have nd := sc_l_middle.nd
  have hu65 : ∀ {k A}, Room k A → A.units + 65 < cLine := fun r => by have := r.un; omega
  refine def_of0 F sc_l_middle (fun _ _ _ _ _ _ us hl => match us, hl with | [_, _], _ => rfl) (fun vs H Q E h => len_R h) (fun cdv A outer s H vs Q E hr h => ⟨_, (pss_one (ps_ret (pe_callD D_l_times hr (by decide) rfl pass0 (pa_cons (pe_callD D_l_plus hr (by decide) rfl pass0 (pa_cons (pv 0) (pa_cons (pv 1) pa_nil))) (pa_cons (pe_tup (pa_cons pe_int (pa_cons pe_int pa_nil))) pa_nil))))), read_D ?_ h⟩)
  rintro S ds d ⟨p, q, rfl, hp, hq, rfl⟩ _
  exact hasS_0 (hasS_ret (has_call (has_cons (has_call (has_cons (has_var rfl) (has_cons (has_var rfl) has_nil)) rfl ⟨p, q, rfl, fit hp hq (by decide), rfl⟩) (has_cons (has_conv (has_tup (has_cons has_int (has_cons has_int has_nil)) (by simp)) half_enc.symm) has_nil)) rfl ⟨p + q, 1 / 2, rfl, fit (hp.add hq) half_sz (by decide), rfl⟩)) rfl
def F_l_c_at (ds : List PyData) (d : PyData) : Prop := ∃ (u : Cur) (t : Rat), ds = [encU u, encF t] ∧ Crv u.1 ∧ SzU u ∧ Sz 1000 t ∧ 0 ≤ t ∧ u.1.length ≤ 50000 ∧ d = .int (place u.1 t : Nat)
abbrev N_l_c_at : List Str := ["_law_curve", "_law_moment", "_law_corner"]
abbrev P_l_c_at : List Str := ["_law_curve", "_law_moment"]
theorem sc_l_c_at : FnScope N_l_c_at P_l_c_at (defScope (top 72)) := ⟨rfl, rfl, rfl, by decide +kernel, rfl, by decide +kernel, by decide +kernel⟩
theorem ok_l_c_at (T : Txt mg) (O : OddOk K) (D_l_is_below : Def P w K mg base CX0 1 "_law_is_below" P_l_is_below (spD TT K F_l_is_below 2)) (F : At K mg "_law_c_at" 72) : Def P w K mg base CX0 2 "_law_c_at" P_l_c_at (spD TT K F_l_c_at 2) := by
  have nd := sc_l_c_at.nd
  have hu65 : ∀ {k A}, Room k A → A.units + 65 < cLine := fun r => by have := r.un; omega
  refine def_of0 F sc_l_c_at (fun _ _ _ _ _ _ us hl => match us, hl with | [_, _], _ => rfl) (fun vs H Q E h => len_R h) (fun cdv A outer s H vs Q E hr h => ⟨_, (pss_one (ps_ret (pe_op op_sub (pe_callB call_len_seq (by rfl) T.fr_len bb_len (pa_cons (pe_lc (own := [("_law_corner", 2)]) (g := (gName 2)) (tt := (tNot (tB (tCall (spD TT K F_l_is_below 2) [] (fun _ _ _ => False) (tCons (tVar 1) (tCons (tOp (rIx K) (tVar 2) (tC (.int 0))) tNil)))))) (te := (tVar 2)) rfl nd (pi_seq (pe_ix ix_seq (pv 0) pe_int (fun _ _ => rfl))) (blkOk_by (N := N_l_c_at) (sc := defScope (top 72)) (own := [("_law_corner", 2)]) (by decide +kernel)) (fun _ _ _ _ _ => (pg_name (i := 2) nd rfl (Or.inl rfl))) (fun _ _ _ _ _ => (pts_one (pt_not (pt_val (pe_callD D_l_is_below hr (by decide) rfl pass0 (pa_cons (pv 1) (pa_cons (pe_ix ix_seq (pv 2) pe_int (fun _ _ => rfl)) pa_nil))))))) (fun _ _ _ _ _ => (pv 2))) pa_nil)) pe_int))), read_D ?_ h⟩)
  rintro S ds d ⟨u, t, rfl, hc, hz, ht, h0, hl, rfl⟩ _
  refine hasS_0 (hasS_ret (has_conv (has_i2 (has_len (has_lc u.1 encK (fun k => !decide (t < k.1)) encK (i_seq (has_ix (has_var rfl) has_int rfl rfl) rfl) (by omega) fun k hk => ⟨_, _, g_name, by simp, hast_not (hast_B (has_call (has_cons (has_var rfl) (has_cons (has_ix (has_var rfl) has_int rfl rfl) has_nil)) rfl (below_F (fit ht (hz.1 k hk).1 (by decide))))), fun _ => has_var rfl⟩) rfl) has_int) ?_)) (by simp)
  obtain ⟨w0, r0, e0⟩ := hc.zero
  have hs := hc.sorted
  rw [List.length_map, e0, filter_place (by rw [← e0]; exact hs) h0]
  congr 1
  omega
def F_l_c_slopes (ds : List PyData) (d : PyData) : Prop := ∃ u : Cur, ds = [encU u] ∧ u.1 ≠ [] ∧ Sorted u.1 ∧ SzU u ∧ u.1.length ≤ 50000 ∧ d = .list ((slopes u.1 u.2).map encF)
abbrev N_l_c_slopes : List Str := ["_law_curve", "_law_found", "_law_one", "_law_other"]
abbrev P_l_c_slopes : List Str := ["_law_curve"]
theorem sc_l_c_slopes : FnScope N_l_c_slopes P_l_c_slopes (defScope (top 73)) := ⟨rfl, rfl, rfl, by decide +kernel, rfl, by decide +kernel, by decide +kernel⟩
theorem ok_l_c_slopes (T : Txt mg) (O : OddOk K) (D_l_by : Def P w K mg base CX0 3 "_law_by" P_l_by (spD TT K F_l_by 2)) (D_l_less : Def P w K mg base CX0 3 "_law_less" P_l_less (spD TT K F_l_less 2)) (F : At K mg "_law_c_slopes" 73) : Def P w K mg base CX0 4 "_law_c_slopes" P_l_c_slopes (spD TT K F_l_c_slopes 1) := by
  have nd := sc_l_c_slopes.nd
  have hu65 : ∀ {k A}, Room k A → A.units + 65 < cLine := fun r => by have := r.un; omega
  refine def_of0 F sc_l_c_slopes (fun _ _ _ _ _ _ us hl => match us, hl with | [_], _ => rfl) (fun vs H Q E h => len_R h) (fun cdv A outer s H vs Q E hr h => ⟨_, (pss_cons (ps_set (i := 1) nd rfl (Or.inl rfl) (pe_lst pa_nil))
    (pss_cons (ps_for PassesOwn.never rfl (pi_zipA rfl T.fr_zip (pa_cons (pe_ix ix_seq (pv 0) pe_int (fun _ _ => rfl)) (pa_cons (pe_slice (sl_list.or sl_tup) (pe_ix ix_seq (pv 0) pe_int (fun _ _ => rfl)) (po_some pe_int) po_none) pa_nil))) (pg_tup rfl (pgs_cons (pg_name (i := 2) nd rfl (Or.inl rfl)) (pgs_cons (pg_name (i := 3) nd rfl (Or.inl rfl)) pgs_nil))) (pss_one (ps_expr (pe_bm PySem.F.plainAttrs_list PySem.F.slot_list_append PySem.F.type_list_append mt_append (pv 1) (pa_cons (pe_callD D_l_by hr (by decide) rfl pass0 (pa_cons (pe_callD D_l_less hr (by decide) rfl pass0 (pa_cons (pe_ix ix_seq (pv 3) pe_int (fun _ _ => rfl)) (pa_cons (pe_ix ix_seq (pv 2) pe_int (fun _ _ => rfl)) pa_nil))) (pa_cons (pe_callD D_l_less hr (by decide) rfl pass0 (pa_cons (pe_ix ix_seq (pv 3) pe_int (fun _ _ => rfl)) (pa_cons (pe_ix ix_seq (pv 2) pe_int (fun _ _ => rfl)) pa_nil))) pa_nil))) pa_nil)))))
    (pss_one (ps_ret (pe_op op_cat (pv 1) (pe_lst (pa_cons (pe_ix ix_seq (pv 0) pe_int (fun _ _ => rfl)) pa_nil))))))), read_D ?_ h⟩)
  rintro S ds d ⟨u, rfl, hn, hs, hz, hl, rfl⟩ _
  refine hasS_0 (c := 0 + (0 + (u.1.zip (u.1.drop 1)).length * 0 + 0)) (hasS_seq_own (f_lst has_nil (by simp)) fun a es e => ?_) (by simp)
  subst e
  refine hasS_seq (Γ1 := [some (tyD ⟨K, TT, S⟩ (encU u)), some (tyV (.ref a)), none, none]) (A1 := [(a, (u.1.zip (u.1.drop 1)).map fun p => encF (steep p.1 p.2))])
    (hasS_le (c1 := 0 + (0 + (0 + 0)) + (u.1.zip (u.1.drop 1)).length * 0) (hasS_for (u.1.zip (u.1.drop 1)) (fun p => .tuple [encK p.1, encK p.2]) (fun _ => [some (tyD ⟨K, TT, S⟩ (encU u)), some (tyV (.ref a)), none, none]) (fun pre => [(a, pre.map fun p => encF (steep p.1 p.2))])
      (i_conv (i_zip (has_ix (has_var rfl) has_int rfl rfl) (has_sl (has_ix (has_var rfl) has_int rfl rfl) (ho_some has_int) ho_none) rfl rfl rfl) (by rw [cut_1, ← List.map_drop, zip_pairs])) (.same (.same (.drop (.drop .nil)))) rfl (fun _ => rfl) (fun pre p suf ex => ⟨_, _, g_tup (gs_cons g_name (gs_cons g_name gs_nil)) rfl, ?_⟩) fun Γ' w => ⟨w, rfl⟩) (by simp))
    (hasS_drop (n := 1) rfl (hasS_0 (hasS_ret (has_conv (has_cat (has_var rfl) (has_lst (has_cons (has_ix (has_var rfl) has_int rfl rfl) has_nil) (by simp)) ?_) ?_)) (by simp)))
  · have hp : p ∈ u.1.zip (u.1.drop 1) := by rw [ex]; simp
    have h1 := hz.1 _ (List.of_mem_zip hp).1
    have h2 := hz.1 _ (List.mem_of_mem_drop (List.of_mem_zip hp).2)
    have hlt := sorted_pair hs p hp
    have hlen : (pre.map fun p : Cor × Cor => encF (steep p.1 p.2)).length < 100000 := by
      have := congrArg List.length ex
      simp at this ⊢; omega
    exact hasS_0 (hasS_append rfl (has_call (has_cons (has_call (has_cons (has_ix (has_var rfl) has_int rfl rfl) (has_cons (has_ix (has_var rfl) has_int rfl rfl) has_nil)) rfl ⟨_, _, rfl, fit h2.2 h1.2 (by decide), rfl⟩) (has_cons (has_call (has_cons (has_ix (has_var rfl) has_int rfl rfl) (has_cons (has_ix (has_var rfl) has_int rfl rfl) has_nil)) rfl ⟨_, _, rfl, fit h2.1 h1.1 (by decide), rfl⟩) has_nil)) rfl ⟨_, _, rfl, fit (h2.2.sub h1.2) (h2.1.sub h1.1) (by decide), by grind, rfl⟩) hlen rfl ⟨.same (.same (.drop (.drop .nil))), by rw [List.map_append]; rfl⟩) rfl
  · simp; omega
  · rw [← slopes_zip u.2 u.1 hn]; simp
abbrev F_l_c_slope := F_slope_from
abbrev N_l_c_slope : List Str := ["_law_curve", "_law_moment", "_law_at", "_law_one", "_law_other"]
abbrev P_l_c_slope : List Str := ["_law_curve", "_law_moment"]
theorem sc_l_c_slope : FnScope N_l_c_slope P_l_c_slope (defScope (top 74)) := ⟨rfl, rfl, rfl, by decide +kernel, rfl, by decide +kernel, by decide +kernel⟩
theorem ok_l_c_slope (T : Txt mg) (O : OddOk K) (D_l_c_at : Def P w K mg base CX0 2 "_law_c_at" P_l_c_at (spD TT K F_l_c_at 2)) (D_l_by : Def P w K mg base CX0 3 "_law_by" P_l_by (spD TT K F_l_by 2)) (D_l_less : Def P w K mg base CX0 3 "_law_less" P_l_less (spD TT K F_l_less 2)) (F : At K mg "_law_c_slope" 74) : Def P w K mg base CX0 4 "_law_c_slope" P_l_c_slope (spD TT K F_l_c_slope 2) := by
  have nd := sc_l_c_slope.nd
  have hu65 : ∀ {k A}, Room k A → A.units + 65 < cLine := fun r => by have := r.un; omega
  refine def_of0 F sc_l_c_slope (fun _ _ _ _ _ _ us hl => match us, hl with | [_, _], _ => rfl) (fun vs H Q E h => len_R h) (fun cdv A outer s H vs Q E hr h => ⟨_, (pss_cons (ps_set (i := 2) nd rfl (Or.inl rfl) (pe_callD D_l_c_at hr (by decide) rfl pass0 (pa_cons (pv 0) (pa_cons (pv 1) pa_nil))))
    (pss_cons (ps_if (pt_cmpR (op_eqD (Room.eq hr)) (pe_op op_add (pv 2) pe_int) (pe_callB call_len_seq (by rfl) T.fr_len bb_len (pa_cons (pe_ix ix_seq (pv 0) pe_int (fun _ _ => rfl)) pa_nil)) (nomark _)) (pss_one (ps_ret (pe_ix ix_seq (pv 0) pe_int (fun _ _ => rfl)))) pss_nil)
    (pss_cons (ps_par (i := 3) (j := 4) (by rfl) nd rfl rfl (by decide) rfl rfl (pa_cons (pe_ix ix_seq (pe_ix ix_seq (pv 0) pe_int (fun _ _ => rfl)) (pv 2) (fun _ _ => rfl)) (pa_cons (pe_ix ix_seq (pe_ix ix_seq (pv 0) pe_int (fun _ _ => rfl)) (pe_op op_add (pv 2) pe_int) (fun _ _ => rfl)) pa_nil)) (by rfl))
    (pss_one (ps_ret (pe_callD D_l_by hr (by decide) rfl pass0 (pa_cons (pe_callD D_l_less hr (by decide) rfl pass0 (pa_cons (pe_ix ix_seq (pv 4) pe_int (fun _ _ => rfl)) (pa_cons (pe_ix ix_seq (pv 3) pe_int (fun _ _ => rfl)) pa_nil))) (pa_cons (pe_callD D_l_less hr (by decide) rfl pass0 (pa_cons (pe_ix ix_seq (pv 4) pe_int (fun _ _ => rfl)) (pa_cons (pe_ix ix_seq (pv 3) pe_int (fun _ _ => rfl)) pa_nil))) pa_nil)))))))), read_D ?_ h⟩)
  rintro S ds d ⟨u, t, rfl, hc, hz, ht, h0, hl, rfl⟩ _
  have hn : u.1 ≠ [] := by obtain ⟨w, r, e⟩ := hc.zero; rw [e]; simp
  have hpl := place_lt t u.1 hn
  refine hasS_0 (hasS_seq_set (has_call (has_cons (has_var rfl) (has_cons (has_var rfl) has_nil)) rfl ⟨u, t, rfl, hc, hz, ht, h0, hl, rfl⟩) (hasS_ifret (c2 := 0) (c3 := 0) (hast_test (has_eq (has_i2 (has_var rfl) has_int) (has_len (has_ix (has_var rfl) has_int rfl rfl) rfl) eqOk_int eqOk_int)) (fun hq => ?_) fun hq => ?_)) rfl
  · have hq : (((place u.1 t : Nat) : Int) + 1 == ((u.1.map encK).length : Nat)) = true := hq
    have hlast : place u.1 t + 1 = u.1.length := by
      have := eq_of_beq hq
      rw [List.length_map] at this; omega
    rw [slp_last u.2 t u.1 hn hlast]
    exact hasS_0 (hasS_ret (has_ix (has_var rfl) has_int rfl rfl)) rfl
  · have hq : (((place u.1 t : Nat) : Int) + 1 == ((u.1.map encK).length : Nat)) = false := hq
    have hlt : place u.1 t + 1 < u.1.length := by
      have h1 : ¬ place u.1 t + 1 = u.1.length := fun z => by
        rw [List.length_map, ← z] at hq
        simp at hq
      omega
    obtain ⟨a, b, ha, hb, e⟩ := slp_mid u.2 t u.1 hlt
    have hza := hz.1 a (List.mem_of_getElem? ha)
    have hzb := hz.1 b (List.mem_of_getElem? hb)
    have hlt2 : a.1 < b.1 := sorted_pair hc.sorted (a, b) (List.mem_iff_getElem?.mpr ⟨place u.1 t, by rw [List.getElem?_zip_eq_some]; exact ⟨ha, by rw [List.getElem?_drop, Nat.add_comm]; exact hb⟩⟩)
    rw [e]
    exact hasS_0 (hasS_seq_par (has_cons (has_ix (has_ix (has_var rfl) has_int rfl rfl) (has_var rfl) rfl (atI_nat (by rw [List.getElem?_map, ha]; rfl))) (has_cons (has_ix (has_ix (has_var rfl) has_int rfl rfl) (has_i2 (has_var rfl) has_int) rfl (atI_nat (j := place u.1 t + 1) (by rw [List.getElem?_map, hb]; rfl))) has_nil))
      (hasS_ret (has_call (has_cons (has_call (has_cons (has_ix (has_var rfl) has_int rfl rfl) (has_cons (has_ix (has_var rfl) has_int rfl rfl) has_nil)) rfl ⟨_, _, rfl, fit hzb.2 hza.2 (by decide), rfl⟩) (has_cons (has_call (has_cons (has_ix (has_var rfl) has_int rfl rfl) (has_cons (has_ix (has_var rfl) has_int rfl rfl) has_nil)) rfl ⟨_, _, rfl, fit hzb.1 hza.1 (by decide), rfl⟩) has_nil)) rfl ⟨_, _, rfl, fit (hzb.2.sub hza.2) (hzb.1.sub hza.1) (by decide), by grind, rfl⟩))) rfl
abbrev F_l_c_worth := F_worth_of
abbrev N_l_c_worth : List Str := ["_law_curve", "_law_moment", "_law_begin", "_law_worth"]
abbrev P_l_c_worth : List Str := ["_law_curve", "_law_moment"]
theorem sc_l_c_worth : FnScope N_l_c_worth P_l_c_worth (defScope (top 75)) := ⟨rfl, rfl, rfl, by decide +kernel, rfl, by decide +kernel, by decide +kernel⟩
theorem ok_l_c_worth (T : Txt mg) (O : OddOk K) (D_l_plus : Def P w K mg base CX0 3 "_law_plus" P_l_plus (spD TT K F_l_plus 2)) (D_l_c_at : Def P w K mg base CX0 2 "_law_c_at" P_l_c_at (spD TT K F_l_c_at 2)) (D_l_times : Def P w K mg base CX0 3 "_law_times" P_l_times (spD TT K F_l_times 2)) (D_l_c_slope : Def P w K mg base CX0 4 "_law_c_slope" P_l_c_slope (spD TT K F_l_c_slope 2)) (D_l_less : Def P w K mg base CX0 3 "_law_less" P_l_less (spD TT K F_l_less 2)) (F : At K mg "_law_c_worth" 75) : Def P w K mg base CX0 5 "_law_c_worth" P_l_c_worth (spD TT K F_l_c_worth 2) := by
  have nd := sc_l_c_worth.nd
  have hu65 : ∀ {k A}, Room k A → A.units + 65 < cLine := fun r => by have := r.un; omega
  refine def_of0 F sc_l_c_worth (fun _ _ _ _ _ _ us hl => match us, hl with | [_, _], _ => rfl) (fun vs H Q E h => len_R h) (fun cdv A outer s H vs Q E hr h => ⟨_, (pss_cons (ps_asg (pe_ix ix_seq (pe_ix ix_seq (pv 0) pe_int (fun _ _ => rfl)) (pe_callD D_l_c_at hr (by decide) rfl pass0 (pa_cons (pv 0) (pa_cons (pv 1) pa_nil))) (fun _ _ => rfl)) (pg_tup rfl (pgs_cons (pg_name (i := 2) nd rfl (Or.inl rfl)) (pgs_cons (pg_name (i := 3) nd rfl (Or.inl rfl)) pgs_nil))))
    (pss_cons (ps_if (pt_cmpR (op_eqD (Room.eq hr)) (pv 2) (pv 1) (nomark _)) (pss_one (ps_ret (pv 3))) pss_nil)
    (pss_one (ps_ret (pe_callD D_l_plus hr (by decide) rfl pass0 (pa_cons (pv 3) (pa_cons (pe_callD D_l_times hr (by decide) rfl pass0 (pa_cons (pe_callD D_l_c_slope hr (by decide) rfl pass0 (pa_cons (pv 0) (pa_cons (pv 1) pa_nil))) (pa_cons (pe_callD D_l_less hr (by decide) rfl pass0 (pa_cons (pv 1) (pa_cons (pv 2) pa_nil))) pa_nil))) pa_nil))))))), read_D ?_ h⟩)
  rintro S ds d ⟨u, t, rfl, hc, hz, ht, h0, hl, rfl⟩ _
  have hn : u.1 ≠ [] := by obtain ⟨w, r, e⟩ := hc.zero; rw [e]; simp
  obtain ⟨a, k, h1, h2, h3, h4⟩ := place_val u.2 t u.1 hn
  have za := hz.1 a (List.mem_of_getElem? h1)
  have hk := slopes_sz hz k (List.mem_of_getElem? h2)
  refine hasS_0 (hasS_seq_asg (has_ix (has_ix (has_var rfl) has_int rfl rfl) (has_call (has_cons (has_var rfl) (has_cons (has_var rfl) has_nil)) rfl ⟨u, t, rfl, hc, hz, ht, h0, hl, rfl⟩) rfl (atI_nat (by rw [List.getElem?_map, h1]; rfl))) (g_tup (gs_cons g_name (gs_cons g_name gs_nil)) rfl) (hasS_ifret (c2 := 0) (c3 := 0) (hast_test (has_eq (has_var rfl) (has_var rfl) (eqOk_encF _) (eqOk_encF _))) (fun hq => ?_) fun hq => ?_)) rfl
  · rw [eqv_encF] at hq
    have hq : a.1 = t := of_decide_eq_true hq
    rw [h3, ← hq]
    have : a.2 + k * (a.1 - a.1) = a.2 := by grind
    rw [this]
    exact hasS_ret (has_var rfl)
  · rw [h3, ← h4] 
    rw [← h4] at hk
    exact hasS_0 (hasS_ret (has_call (has_cons (has_var rfl) (has_cons (has_call (has_cons (has_call (has_cons (has_var rfl) (has_cons (has_var rfl) has_nil)) rfl ⟨u, t, rfl, hc, hz, ht, h0, hl, rfl⟩) (has_cons (has_call (has_cons (has_var rfl) (has_cons (has_var rfl) has_nil)) rfl ⟨t, a.1, rfl, fit ht za.1 (by decide), rfl⟩) has_nil)) rfl ⟨_, _, rfl, fit hk (ht.sub za.1) (by decide), rfl⟩) has_nil)) rfl ⟨_, _, rfl, fit za.2 (hk.mul (ht.sub za.1)) (by decide), rfl⟩)) rfl
end
end Q6
end
section
set_option maxHeartbeats 4000000
set_option exponentiation.threshold 2000000
namespace Q6
open PySem PySem.Spec PyProof.Rows L2 LamX RZ Qk
theorem hast_conv {C : Cf} {c : Nat} {t : TT} {Γ : Cxt} {b b' : Bool} (h : HasT C c t Γ (fun x => x = b)) (e : b = b') : HasT C c t Γ (fun x => x = b') := by rw [← e]; exact h
theorem zipIdx_mid {α : Type} {c : List α} {pre suf : List (α × Nat)} {x : α × Nat} (ex : c.zipIdx = pre ++ x :: suf) : x.2 = pre.length ∧ c[pre.length]? = some x.1 := by
  have h : c.zipIdx[pre.length]? = some x := by rw [ex]; simp
  rw [List.getElem?_zipIdx] at h
  cases q : c[pre.length]? with
  | none => rw [q] at h; cases h
  | some a => rw [q] at h; cases h; simp
theorem ah_pr {c : List Cor} {sl : List Rat} {pre suf : List (Cor × Nat)} (ex : c.zipIdx = pre ++ suf) : ah none (pre.map (pr sl)) = if pre.length = 0 then none else some (sl.getD (pre.length - 1) 0) := by
  rcases List.eq_nil_or_concat pre with e | ⟨p, y, e⟩
  · subst e; rfl
  · rw [List.concat_eq_append] at e
    subst e
    have hy : y.2 = p.length := (zipIdx_mid (pre := p) (x := y) (suf := suf) (by rw [ex]; simp)).1
    rw [List.map_append, List.map_singleton, ah_snoc, if_neg (by simp)]
    simp [pr, hy]
section
variable {P : Program} {w : World} {K : PySem.W.Frag} {mg : Str → Option Value} {base : Heap} {TT : List (Addr × Str)}
def F_l_c_plain (ds : List PyData) (d : PyData) : Prop := ∃ (c : List Cor) (s : Rat), ds = [encC c, encF s] ∧ c ≠ [] ∧ Sorted c ∧ SzU (c, s) ∧ c.length ≤ 50000 ∧ d = encU (norm c s)
abbrev N_l_c_plain : List Str := ["_law_corners", "_law_slope", "_law_slopes", "_law_found", "_law_at", "_law_corner"]
abbrev P_l_c_plain : List Str := ["_law_corners", "_law_slope"]
theorem sc_l_c_plain : FnScope N_l_c_plain P_l_c_plain (defScope (top 76)) := ⟨rfl, rfl, rfl, by decide +kernel, rfl, by decide +kernel, by decide +kernel⟩
theorem ok_l_c_plain (T : Txt mg) (O : OddOk K) (D_l_c_slopes : Def P w K mg base CX0 4 "_law_c_slopes" P_l_c_slopes (spD TT K F_l_c_slopes 1)) (F : At K mg "_law_c_plain" 76) : Def P w K mg base CX0 5 "_law_c_plain" P_l_c_plain (spD TT K F_l_c_plain 2) := by
  have nd := sc_l_c_plain.nd
  have hu65 : ∀ {k A}, Room k A → A.units + 65 < cLine := fun r => by have := r.un; omega
  refine def_of0 F sc_l_c_plain (fun _ _ _ _ _ _ us hl => match us, hl with | [_, _], _ => rfl) (fun vs H Q E h => len_R h) (fun cdv A outer s H vs Q E hr h => ⟨_, (pss_cons (ps_par (i := 2) (j := 3) (by rfl) nd rfl rfl (by decide) rfl rfl (pa_cons (pe_callD D_l_c_slopes hr (by decide) rfl pass0 (pa_cons (pe_tup (pa_cons (pv 0) (pa_cons (pv 1) pa_nil))) pa_nil)) (pa_cons (pe_lst pa_nil) pa_nil)) (by rfl))
    (pss_cons (ps_for PassesOwn.never rfl (pi_enum rfl T.fr_enumerate (pa_cons (pv 0) pa_nil)) (pg_tup rfl (pgs_cons (pg_name (i := 4) nd rfl (Or.inl rfl)) (pgs_cons (pg_name (i := 5) nd rfl (Or.inl rfl)) pgs_nil))) (pss_one (ps_expr (pe_bm PySem.F.plainAttrs_list PySem.F.slot_list_extend PySem.F.type_list_extend mt_extend (pv 3) (pa_cons (pe_ifExp (PW.pt (pw_or (pt_cmpR (op_eqD (Room.eq hr)) (pv 4) pe_int (nomark _)) (pw_or1 (pt_cmpR (op_neD (Room.eq hr)) (pe_ix ix_seq (pv 2) (pv 4) (fun _ _ => rfl)) (pe_ix ix_seq (pv 2) (pe_op op_sub (pv 4) pe_int) (fun _ _ => rfl)) (nomark _))))) (pe_lst (pa_cons (pv 5) pa_nil)) (pe_lst pa_nil)) pa_nil)))))
    (pss_one (ps_ret (pe_tup (pa_cons (pv 3) (pa_cons (pv 1) pa_nil))))))), read_D ?_ h⟩)
  rintro S ds d ⟨c, s, rfl, hn, hs, hz, hl, rfl⟩ _
  refine hasS_0 (c := 0 + (0 + (0 + c.zipIdx.length * 0 + 0))) (hasS_seq_par2 (has_call (has_cons (has_tup (has_cons (has_var rfl) (has_cons (has_var rfl) has_nil)) (by simp)) has_nil) rfl ⟨(c, s), rfl, hn, hs, hz, hl, rfl⟩) (f_lst has_nil (by simp)) fun a es e => ?_) (by simp)
  subst e
  have hsl := slopes_len s c hn
  refine hasS_seq (Γ1 := [some (tyD ⟨K, TT, S⟩ (encC c)), some (tyD ⟨K, TT, S⟩ (encF s)), some (tyD ⟨K, TT, S⟩ (.list ((slopes c s).map encF))), some (tyV (.ref a)), none, none]) (A1 := [(a, (kp none (c.zipIdx.map (pr (slopes c s)))).map encK)])
    (hasS_for c.zipIdx (fun p => .tuple [.int (p.2 : Nat), encK p.1]) (fun _ => [some (tyD ⟨K, TT, S⟩ (encC c)), some (tyD ⟨K, TT, S⟩ (encF s)), some (tyD ⟨K, TT, S⟩ (.list ((slopes c s).map encF))), some (tyV (.ref a)), none, none]) (fun pre => [(a, (kp none (pre.map (pr (slopes c s)))).map encK)])
      (i_conv (i_enum (has_var rfl)) (by rw [List.zipIdx_map, List.map_map]; rfl)) (.same (.same (.same (.same (.drop (.drop .nil)))))) rfl (fun _ => rfl) (fun pre x suf ex => ⟨_, _, g_tup (gs_cons g_name (gs_cons g_name gs_nil)) rfl, ?_⟩) fun Γ' w => ⟨w, rfl⟩)
    (by rw [kp_zipIdx hn]; exact hasS_drop (n := 3) rfl (hasS_ret (has_tup (has_cons (has_var rfl) (has_cons (has_var rfl) has_nil)) (by simp))))
  obtain ⟨hx, hc⟩ := zipIdx_mid ex
  have hah := ah_pr (sl := slopes c s) ex
  have hlt : pre.length < (slopes c s).length := by
    rw [hsl]
    rcases Nat.lt_or_ge pre.length c.length with z | z
    · exact z
    · rw [List.getElem?_eq_none z] at hc; cases hc
  have hg : ∀ i, i < (slopes c s).length → (slopes c s)[i]? = some ((slopes c s).getD i 0) := fun i hi => by
    rw [List.getElem?_eq_getElem hi, List.getD, List.getElem?_eq_getElem hi]; rfl
  have hlen : (kp none (pre.map (pr (slopes c s)))).length ≤ pre.length := by
    have := kp_len none (pre.map (pr (slopes c s)))
    rwa [List.length_map] at this
  have tst := has_if (c2 := 0) (c3 := 0) (C := ⟨K, TT, S⟩) (Γ := [some (tyD ⟨K, TT, S⟩ (encC c)), some (tyD ⟨K, TT, S⟩ (encF s)), some (tyD ⟨K, TT, S⟩ (.list ((slopes c s).map encF))), some (tyV (.ref a)), some (tyD ⟨K, TT, S⟩ (.int (x.2 : Nat))), some (tyD ⟨K, TT, S⟩ (encK x.1))])
    (b := (((x.2 : Nat) : Int) == 0) || !PyData.eqv (encF ((slopes c s).getD pre.length 0)) (encF ((slopes c s).getD (pre.length - 1) 0)))
    (τ := tyD ⟨K, TT, S⟩ (.list (bif sm (ah none (pre.map (pr (slopes c s)))) ((slopes c s).getD pre.length 0) then [] else [encK x.1])))
    (hast_or (hast_test (has_eqI (has_var (n := 4) rfl) has_int)) fun hq => hast_test (has_ne (has_ix (has_var (n := 2) rfl) (has_var (n := 4) rfl) rfl (atI_nat (by rw [List.getElem?_map, hx, hg _ hlt]; rfl)))
      (has_ix (has_var (n := 2) rfl) (has_i2 (f := fun i j => i - j) (j := 1) (has_var (n := 4) rfl) has_int) rfl (by
        have h0 : x.2 ≠ 0 := fun z => by rw [z] at hq; exact absurd hq (by decide)
        have : ((x.2 : Nat) : Int) - 1 = ((pre.length - 1 : Nat) : Int) := by omega
        rw [this]
        exact atI_nat (by rw [List.getElem?_map, hg _ (by omega)]; rfl))) (eqOk_encF _) (eqOk_encF _)))
    (fun hq => has_conv (has_lst (has_cons (has_var (n := 5) rfl) has_nil) (by simp)) ?_) (fun hq => has_conv (has_lst has_nil (by simp)) ?_)
  · refine hasS_0 (hasS_extend rfl tst ?_ rfl ⟨.same (.same (.same (.same (.drop (.drop .nil))))), ?_⟩) rfl
    · have : (bif sm (ah none (pre.map (pr (slopes c s)))) ((slopes c s).getD pre.length 0) then ([] : List PyData) else [encK x.1]).length ≤ 1 := by cases sm (ah none (pre.map (pr (slopes c s)))) ((slopes c s).getD pre.length 0) <;> simp
      rw [List.length_map]
      omega
    · have ez : (pr (slopes c s) x) = (x.1, (slopes c s).getD pre.length 0) := by unfold pr; rw [hx]
      rw [List.map_append, List.map_singleton, kp_snoc, ez, List.map_append]
      cases sm (ah none (pre.map (pr (slopes c s)))) ((slopes c s).getD pre.length 0) <;> rfl
  · rw [hah]
    by_cases h0 : pre.length = 0
    · rw [if_pos h0]; rfl
    · rw [if_neg h0]
      have : (((x.2 : Nat) : Int) == 0) = false := beq_eq_false_iff_ne.mpr (by omega)
      rw [this, Bool.false_or, eqv_encF] at hq
      have hne : ¬ (slopes c s).getD pre.length 0 = (slopes c s).getD (pre.length - 1) 0 := by simpa using hq
      simp only [sm]
      rw [decide_eq_false fun z => hne z.symm]; rfl
  · rw [hah]
    have hq2 := (Bool.or_eq_false_iff.mp hq)
    have h0 : ¬ pre.length = 0 := fun z => by rw [hx, z] at hq2; exact absurd hq2.1 (by decide)
    rw [if_neg h0]
    have hq3 := hq2.2
    rw [eqv_encF] at hq3
    have he : (slopes c s).getD pre.length 0 = (slopes c s).getD (pre.length - 1) 0 := by simpa using hq3
    simp only [sm]
    rw [decide_eq_true he.symm]; rfl
theorem eqv_encK (k l : Cor) : PyData.eqv (encK k) (encK l) = decide (k = l) := by
  have : (PyData.eqv (encF k.1) (encF l.1) && (PyData.eqv (encF k.2) (encF l.2) && true)) = decide (k = l) := by
    rw [eqv_encF, eqv_encF, Bool.and_true, Bool.eq_iff_iff, Bool.and_eq_true, decide_eq_true_iff, decide_eq_true_iff, decide_eq_true_iff, Prod.ext_iff]
  exact this
theorem eqvAll_encK : ∀ c d : List Cor, PyData.eqvAll (c.map encK) (d.map encK) = decide (c = d)
  | [], [] => rfl
  | [], _ :: _ => rfl
  | _ :: _, [] => rfl
  | a :: c, b :: d => by
    have : (PyData.eqv (encK a) (encK b) && PyData.eqvAll (c.map encK) (d.map encK)) = decide (a :: c = b :: d) := by
      rw [eqv_encK, eqvAll_encK c d, Bool.eq_iff_iff, Bool.and_eq_true, decide_eq_true_iff, decide_eq_true_iff, decide_eq_true_iff, List.cons.injEq]
    exact this
theorem eqv_encU (u v : Cur) : PyData.eqv (encU u) (encU v) = decide (u = v) := by
  have : (PyData.eqvAll (u.1.map encK) (v.1.map encK) && (PyData.eqv (encF u.2) (encF v.2) && true)) = decide (u = v) := by
    rw [eqvAll_encK, eqv_encF, Bool.and_true, Bool.eq_iff_iff, Bool.and_eq_true, decide_eq_true_iff, decide_eq_true_iff, decide_eq_true_iff, Prod.ext_iff]
  exact this
theorem noDict_encKs (l : List Cor) : noDictAll (l.map encK) = true := by
  induction l with
  | nil => rfl
  | cons q l ih => rw [List.map_cons]; show (noDict (encK q) && noDictAll (l.map encK)) = true; rw [ih]; rfl
theorem lay_encKs (l : List Cor) : PyData.canLayAll0 (l.map encK) = true := by
  induction l with
  | nil => rfl
  | cons q l ih => rw [List.map_cons]; show (PyData.canLay0 (encK q) && PyData.canLayAll0 (l.map encK)) = true; rw [ih]; rfl
theorem depth_encKs (l : List Cor) : PyData.depthAll (l.map encK) ≤ 2 := by
  induction l with
  | nil => exact Nat.zero_le _
  | cons q l ih =>
    have e : PyData.depth (encK q) = 2 := by simp [encK, encF, PyData.depth, PyData.depthAll]
    rw [List.map_cons, PyData.depthAll, e]
    omega
theorem eqOk_encC (l : List Cor) : eqOk (encC l) = true := by
  have h1 := noDict_encKs l
  have h2 := lay_encKs l
  have h3 := depth_encKs l
  unfold eqOk SeqAt.shaped encC
  simp only [noDict, PyData.canLay0, PyData.depth, h1, h2, Bool.true_and]
  exact decide_eq_true (by omega)
theorem eqOk_encU (u : Cur) : eqOk (encU u) = true := by
  have h1 := noDict_encKs u.1
  have h2 := lay_encKs u.1
  have h3 := depth_encKs u.1
  unfold eqOk SeqAt.shaped encU encC encF
  simp only [noDict, noDictAll, PyData.canLay0, PyData.canLayAll0, PyData.depth, PyData.depthAll, h1, h2, Bool.true_and, Bool.and_true]
  exact decide_eq_true (by omega)
theorem eqOk_nil : eqOk (.list []) = true := by simp [eqOk, noDict, noDictAll, SeqAt.shaped, PyData.canLay0, PyData.canLayAll0, PyData.depth, PyData.depthAll]
def F_l_is_told (ds : List PyData) (d : PyData) : Prop := ∃ q : Rat, ds = [encF q] ∧ d = .bool true
abbrev N_l_is_told : List Str := ["_law_thing", "_law_one"]
abbrev P_l_is_told : List Str := ["_law_thing"]
theorem sc_l_is_told : FnScope N_l_is_told P_l_is_told (defScope (top 70)) := ⟨rfl, rfl, rfl, by decide +kernel, rfl, by decide +kernel, by decide +kernel⟩
theorem ok_l_is_told (T : Txt mg) (O : OddOk K) (D_l_common : Def P w K mg base CX0 1 "_law_common" P_l_common (spD TT K F_l_common 2)) (F : At K mg "_law_is_told" 70) : Def P w K mg base CX0 2 "_law_is_told" P_l_is_told (spD TT K F_l_is_told 1) := by
  have nd := sc_l_is_told.nd
  have hu65 : ∀ {k A}, Room k A → A.units + 65 < cLine := fun r => by have := r.un; omega
  refine def_of0 F sc_l_is_told (fun _ _ _ _ _ _ us hl => match us, hl with | [_], _ => rfl) (fun vs H Q E h => len_R h) (fun cdv A outer s H vs Q E hr h => ⟨_, (pss_cons (ps_if (PW.pt (pw_or (pt_not (pt_val (pe_callB call_isF (by rfl) T.fr_isinstance bb_isinstance (pa_cons (pv 0) (pa_cons (pe_bltn (v := .ty "tuple") rfl (T.fr_tuple) bb_tuple rfl) pa_nil))))) (pw_or1 (pt_cmpR (op_neD (Room.eq hr)) (pe_callB call_len_seq (by rfl) T.fr_len bb_len (pa_cons (pv 0) pa_nil)) pe_int (nomark _))))) (pss_one (ps_ret pe_bl)) pss_nil)
    (pss_cons (ps_if (pt_not (pt_val (pe_callB (cr_all rfl) (by rfl) T.fr_all bb_all (pa_cons (pe_lc (own := [("_law_one", 1)]) (g := (gName 1)) (tt := tYes) (te := (tAndV (tCB (rIsF K) (tCons (tVar 1) (tCons (tC (.ty "int")) tNil))) (tNotV (tCB (rIsF K) (tCons (tVar 1) (tCons (tC (.ty "bool")) tNil)))))) rfl nd (pi_seq (pv 0)) (blkOk_by (N := N_l_is_told) (sc := defScope (top 70)) (own := [("_law_one", 1)]) (by decide +kernel)) (fun _ _ _ _ _ => (pg_name (i := 1) nd rfl (Or.inl rfl))) (fun _ _ _ _ _ => pts_nil) (fun _ _ _ _ _ => (pe_and (pe_callB call_isF (by rfl) T.fr_isinstance bb_isinstance (pa_cons (pv 1) (pa_cons (pe_bltn (v := .ty "int") rfl (T.fr_int) bb_int rfl) pa_nil))) (pe_one (pe_not (pe_callB call_isF (by rfl) T.fr_isinstance bb_isinstance (pa_cons (pv 1) (pa_cons (pe_bltn (v := .ty "bool") rfl (T.fr_bool) bb_bool rfl) pa_nil)))))))) pa_nil)))) (pss_one (ps_ret pe_bl)) pss_nil)
    (pss_one (ps_ret (pe_and (pe_cmpR op_gt (pe_ix ix_seq (pv 0) pe_int (fun _ _ => rfl)) pe_int (nomark _)) (pe_one (pe_cmpR (op_eqD (Room.eq hr)) (pe_callD D_l_common hr (by decide) rfl pass0 (pa_cons (pe_ix ix_seq (pv 0) pe_int (fun _ _ => rfl)) (pa_cons (pe_ix ix_seq (pv 0) pe_int (fun _ _ => rfl)) pa_nil))) pe_int (nomark _)))))))), read_D ?_ h⟩)
  rintro S ds d ⟨q, rfl, rfl⟩ _
  have hg : Nat.gcd q.num.natAbs (q.den : Int).natAbs = 1 := by rw [Int.natAbs_natCast]; exact q.reduced
  refine hasS_0 (hasS_ifret (c2 := 0) (c3 := 0) (hast_or (hast_not (hast_B (has_isi O (has_var rfl) rfl))) fun hq => hast_test (has_neI (has_len (has_var rfl) rfl) has_int)) (fun hq => absurd (show false = true from hq) (by decide)) fun hq =>
    hasS_ifret (c2 := 0) (c3 := 0) (hast_not (hast_B (has_all (bs := [true, true]) (has_map [q.num, (q.den : Int)] PyData.int (fun _ => .bool true) (i_seq (has_var rfl) rfl) (by simp) fun x hx => ⟨_, _, g_name, by simp, has_conv (has_andV (has_isi O (has_var rfl) rfl) fun _ => has_notV (has_isi O (has_var rfl) rfl)) rfl⟩)))) (fun hq => absurd (show false = true from hq) (by decide)) fun hq =>
    hasS_ret (has_conv (has_andV (has_b2 (has_ix (has_var rfl) has_int rfl rfl) has_int) fun _ => has_eqI (has_call (has_cons (has_ix (has_var rfl) has_int rfl rfl) (has_cons (has_ix (has_var rfl) has_int rfl rfl) has_nil)) rfl ⟨_, _, rfl, rfl⟩) has_int) ?_)) rfl
  rw [hg, decide_eq_true (den_pos q)]; rfl
theorem zip_encF (l : List Rat) : ((l.map encF).zip (cutD (l.map encF) (some 1) none)).map (fun p => PyData.tuple [p.1, p.2]) = (l.zip (l.drop 1)).map (fun p => .tuple [encF p.1, encF p.2]) := by
  rw [cut_1, ← List.map_drop, zip_pairs]
theorem mom_pair {c : List Cor} (hs : Sorted c) : ∀ p ∈ (mom c).zip ((mom c).drop 1), p.1 < p.2 := by
  intro p hp
  induction c with
  | nil => simp at hp
  | cons a r ih =>
    cases r with
    | nil => simp at hp
    | cons b r =>
      simp only [List.map_cons, List.drop_succ_cons, List.drop_zero, List.zip_cons_cons, List.mem_cons] at hp ih
      rcases hp with e | e
      · rw [e]; exact hs.1
      · exact ih hs.2 (by simpa using e)
def F_l_c_is_told (ds : List PyData) (d : PyData) : Prop := ∃ u : Cur, ds = [encU u] ∧ Told u ∧ SzU u ∧ u.1.length ≤ 50000 ∧ d = .bool true
abbrev N_l_c_is_told : List Str := ["_law_thing", "_law_corner", "_law_moments", "_law_one", "_law_other"]
abbrev P_l_c_is_told : List Str := ["_law_thing"]
theorem sc_l_c_is_told : FnScope N_l_c_is_told P_l_c_is_told (defScope (top 77)) := ⟨rfl, rfl, rfl, by decide +kernel, rfl, by decide +kernel, by decide +kernel⟩
theorem ok_l_c_is_told (T : Txt mg) (O : OddOk K) (D_l_is_told : Def P w K mg base CX0 2 "_law_is_told" P_l_is_told (spD TT K F_l_is_told 1)) (D_l_c_plain : Def P w K mg base CX0 5 "_law_c_plain" P_l_c_plain (spD TT K F_l_c_plain 2)) (D_l_is_below : Def P w K mg base CX0 1 "_law_is_below" P_l_is_below (spD TT K F_l_is_below 2)) (F : At K mg "_law_c_is_told" 77) : Def P w K mg base CX0 6 "_law_c_is_told" P_l_c_is_told (spD TT K F_l_c_is_told 1) := by
  have nd := sc_l_c_is_told.nd
  have hu65 : ∀ {k A}, Room k A → A.units + 65 < cLine := fun r => by have := r.un; omega
  refine def_of0 F sc_l_c_is_told (fun _ _ _ _ _ _ us hl => match us, hl with | [_], _ => rfl) (fun vs H Q E h => len_R h) (fun cdv A outer s H vs Q E hr h => ⟨_, (pss_cons (ps_if (PW.pt (pw_or (pt_not (pt_val (pe_callB call_isF (by rfl) T.fr_isinstance bb_isinstance (pa_cons (pv 0) (pa_cons (pe_bltn (v := .ty "tuple") rfl (T.fr_tuple) bb_tuple rfl) pa_nil))))) (pw_or (pt_cmpR (op_neD (Room.eq hr)) (pe_callB call_len_seq (by rfl) T.fr_len bb_len (pa_cons (pv 0) pa_nil)) pe_int (nomark _)) (pw_or (pt_not (pt_val (pe_callB call_isF (by rfl) T.fr_isinstance bb_isinstance (pa_cons (pe_ix ix_seq (pv 0) pe_int (fun _ _ => rfl)) (pa_cons (pe_bltn (v := .ty "list") rfl (T.fr_list) bb_list rfl) pa_nil))))) (pw_or1 (pt_cmpR (op_eqD (Room.eq hr)) (pe_ix ix_seq (pv 0) pe_int (fun _ _ => rfl)) (pe_lst pa_nil) (nomark _))))))) (pss_one (ps_ret pe_bl)) pss_nil)
    (pss_cons (ps_if (pt_not (pt_val (pe_callD D_l_is_told hr (by decide) rfl pass0 (pa_cons (pe_ix ix_seq (pv 0) pe_int (fun _ _ => rfl)) pa_nil)))) (pss_one (ps_ret pe_bl)) pss_nil)
    (pss_cons (ps_for PassesOwn.never rfl (pi_seq (pe_ix ix_seq (pv 0) pe_int (fun _ _ => rfl))) (pg_name (i := 1) nd rfl (Or.inl rfl)) (pss_one (ps_if (PW.pt (pw_or (pt_not (pt_val (pe_callB call_isF (by rfl) T.fr_isinstance bb_isinstance (pa_cons (pv 1) (pa_cons (pe_bltn (v := .ty "tuple") rfl (T.fr_tuple) bb_tuple rfl) pa_nil))))) (pw_or (pt_cmpR (op_neD (Room.eq hr)) (pe_callB call_len_seq (by rfl) T.fr_len bb_len (pa_cons (pv 1) pa_nil)) pe_int (nomark _)) (pw_or1 (pt_not (pt_val (pe_callB (cr_all rfl) (by rfl) T.fr_all bb_all (pa_cons (pe_lc (own := [("_law_one", 3)]) (g := (gName 3)) (tt := tYes) (te := (tCall (spD TT K F_l_is_told 1) [] (fun _ _ _ => False) (tCons (tVar 3) tNil))) rfl nd (pi_seq (pv 1)) (blkOk_by (N := N_l_c_is_told) (sc := defScope (top 77)) (own := [("_law_one", 3)]) (by decide +kernel)) (fun _ _ _ _ _ => (pg_name (i := 3) nd rfl (Or.inl rfl))) (fun _ _ _ _ _ => pts_nil) (fun _ _ _ _ _ => (pe_callD D_l_is_told hr (by decide) rfl pass0 (pa_cons (pv 3) pa_nil)))) pa_nil)))))))) (pss_one (ps_ret pe_bl)) pss_nil)))
    (pss_cons (ps_setLc (own := [("_law_corner", 1)]) (g := (gName 1)) (tt := tYes) (te := (tOp (rIx K) (tVar 1) (tC (.int 0)))) (i := 2) rfl nd rfl rfl (sw_true rfl rfl rfl (by decide +kernel)) (pi_seq (pe_ix ix_seq (pv 0) pe_int (fun _ _ => rfl))) (blkOk_by (N := N_l_c_is_told) (sc := defScope (top 77)) (own := [("_law_corner", 1)]) (by decide +kernel)) (fun _ _ _ _ _ => (pg_name (i := 1) nd rfl (Or.inl rfl))) (fun _ _ _ _ _ => pts_nil) (fun _ _ _ _ _ => (pe_ix ix_seq (pv 1) pe_int (fun _ _ => rfl))))
    (pss_cons (ps_if (PW.pt (pw_or (pt_cmpR (op_neD (Room.eq hr)) (pe_ix ix_seq (pv 2) pe_int (fun _ _ => rfl)) (pe_tup (pa_cons pe_int (pa_cons pe_int pa_nil))) (nomark _)) (pw_or1 (pt_not (pt_val (pe_callB (cr_all rfl) (by rfl) T.fr_all bb_all (pa_cons (pe_lc (own := [("_law_one", 3), ("_law_other", 4)]) (g := (gTup K 2 (gCons (gName 3) (gCons (gName 4) gNil)))) (tt := tYes) (te := (tCall (spD TT K F_l_is_below 2) [] (fun _ _ _ => False) (tCons (tVar 3) (tCons (tVar 4) tNil)))) rfl nd (pi_zipA rfl T.fr_zip (pa_cons (pv 2) (pa_cons (pe_slice (sl_list.or sl_tup) (pv 2) (po_some pe_int) po_none) pa_nil))) (blkOk_by (N := N_l_c_is_told) (sc := defScope (top 77)) (own := [("_law_one", 3), ("_law_other", 4)]) (by decide +kernel)) (fun _ _ _ _ _ => (pg_tup rfl (pgs_cons (pg_name (i := 3) nd rfl (Or.inl rfl)) (pgs_cons (pg_name (i := 4) nd rfl (Or.inl rfl)) pgs_nil)))) (fun _ _ _ _ _ => pts_nil) (fun _ _ _ _ _ => (pe_callD D_l_is_below hr (by decide) rfl pass0 (pa_cons (pv 3) (pa_cons (pv 4) pa_nil))))) pa_nil))))))) (pss_one (ps_ret pe_bl)) pss_nil)
    (pss_one (ps_ret (pe_cmpR (op_eqD (Room.eq hr)) (pe_callD D_l_c_plain hr (by decide) rfl pass0 (pa_cons (pe_ix ix_seq (pv 0) pe_int (fun _ _ => rfl)) (pa_cons (pe_ix ix_seq (pv 0) pe_int (fun _ _ => rfl)) pa_nil))) (pv 0) (nomark _))))))))), read_D ?_ h⟩)
  rintro S ds d ⟨u, rfl, ht, hz, hl, rfl⟩ _
  have hc := ht.crv
  obtain ⟨w0, r0, e0⟩ := hc.zero
  have hn : u.1 ≠ [] := by rw [e0]; simp
  have hne : PyData.eqv (encC u.1) (.list []) = false := by rw [e0]; rfl
  have t1 : HasT ⟨K, TT, S⟩ 0 _ [some (tyD ⟨K, TT, S⟩ (encU u)), none, none, none, none] (fun x => x = false) := hast_conv (hast_le (hast_or (hast_not (hast_B (has_isi O (has_var (n := 0) rfl) rfl (T := "tuple")))) fun hq => hast_or (hast_test (has_neI (has_len (has_var (n := 0) rfl) rfl) (has_int (n := 2)))) fun hq => hast_or (hast_not (hast_B (has_isi O (has_ix (has_var (n := 0) rfl) (has_int (n := 0)) rfl rfl) rfl (T := "list")))) fun hq => hast_test (has_eq (has_ix (has_var (n := 0) rfl) (has_int (n := 0)) rfl rfl) (has_lst has_nil (by simp)) (eqOk_encC _) eqOk_nil)) (by simp)) (by rw [hne]; rfl)
  have m1 : HasE ⟨K, TT, S⟩ 0 _ [some (tyD ⟨K, TT, S⟩ (encU u)), none, none, none, none] (tyD ⟨K, TT, S⟩ (.list ((mom u.1).map encF))) := has_conv (has_le (has_map (vs := [1]) (g := gName 1) (te := tOp (rIx K) (tVar 1) (tC (.int 0))) (wi := iSeq K (tOp (rIx K) (tVar 0) (tC (.int 0)))) u.1 encK (fun k => encF k.1) (i_seq (has_ix (has_var rfl) has_int rfl rfl) rfl) (by omega) fun k hk => ⟨_, _, g_name, by simp, has_ix (has_var rfl) has_int rfl rfl⟩) (by simp)) (by rw [List.map_map]; rfl)
  refine hasS_0 (c := 0 + (0 + (0 + (0 + (0 + u.1.length * 0 + (0 + 0)))))) (hasS_ifret (c2 := 0) t1 (fun hq => absurd hq (by decide)) fun hq =>
    hasS_ifret (c2 := 0) (hast_not (hast_B (has_call (has_cons (has_ix (has_var rfl) has_int rfl rfl) has_nil) rfl ⟨_, rfl, rfl⟩))) (fun hq => absurd (show false = true from hq) (by decide)) fun hq =>
    hasS_seq (Γ1 := [some (tyD ⟨K, TT, S⟩ (encU u)), none, none, none, none]) (A1 := []) (hasS_for u.1 encK (fun _ => [some (tyD ⟨K, TT, S⟩ (encU u)), none, none, none, none]) (fun _ => []) (i_seq (has_ix (has_var rfl) has_int rfl rfl) rfl) (.same (.drop (.drop (.drop (.drop .nil))))) rfl (fun _ => rfl) (fun pre x suf ex => ⟨_, _, g_name, ?_⟩) fun Γ' w => ⟨w, rfl⟩)
    (hasS_seq_set m1 ?_)) (by simp)
  · exact hasS_0 (hasS_if (c2 := 0) (hast_conv (hast_le (hast_or (hast_not (hast_B (has_isi O (has_var rfl) rfl))) fun hq => hast_or (hast_test (has_neI (has_len (has_var rfl) rfl) has_int)) fun hq => hast_not (hast_B (has_all (bs := [true, true]) (has_map [x.1, x.2] encF (fun _ => .bool true) (i_seq (has_var rfl) rfl) (by simp) fun q hq => ⟨_, _, g_name, by simp, has_call (has_cons (has_var rfl) has_nil) rfl ⟨q, rfl, rfl⟩⟩)))) (Nat.le_refl 0)) (b' := false) rfl) (fun hq => absurd hq (by decide)) fun hq => hasS_next ⟨.same (.drop (.drop (.drop (.drop .nil)))), rfl⟩) rfl
  · have hlm : ((mom u.1).zip ((mom u.1).drop 1)).length ≤ 100000 := by simp at hl ⊢; omega
    have hmem : ∀ m ∈ mom u.1, Sz 1000 m := fun m hm => by
      obtain ⟨k, hk, e⟩ := List.mem_map.mp hm
      rw [← e]; exact (hz.1 k hk).1
    have t2 := has_map (C := ⟨K, TT, S⟩) (Γ := [some (tyD ⟨K, TT, S⟩ (encU u)), none, some (tyD ⟨K, TT, S⟩ (.list ((mom u.1).map encF))), none, none]) (c := 0) (te := tCall (spD TT K F_l_is_below 2) [] (fun _ _ _ => False) (tCons (tVar 3) (tCons (tVar 4) tNil))) (vs := [3, 4]) (g := gTup K 2 (gCons (gName 3) (gCons (gName 4) gNil))) ((mom u.1).zip ((mom u.1).drop 1)) (fun p => .tuple [encF p.1, encF p.2]) (fun _ => .bool true)
      (i_conv (i_zip (has_var (n := 2) rfl) (has_sl (has_var (n := 2) rfl) (ho_some (has_int (n := 1))) ho_none) rfl rfl rfl) (zip_encF _)) hlm fun p hp => ⟨[3, 4], _, g_tup (gs_cons (g_name (i := 3)) (gs_cons (g_name (i := 4)) gs_nil)) rfl, by simp, has_conv (has_call (has_cons (has_var (n := 3) rfl) (has_cons (has_var (n := 4) rfl) has_nil)) rfl (below_F (fit (hmem _ (List.of_mem_zip hp).1) (hmem _ (List.mem_of_mem_drop (List.of_mem_zip hp).2)) (by decide)))) (by rw [decide_eq_true (mom_pair hc.sorted p hp)])⟩
    refine hasS_0 (c := 0 + (0 + 0)) (hasS_ifret (c2 := 0) (hast_conv (hast_le (c1 := 0 + _) (hast_or (hast_test (has_ne (d := encF 0) (has_ix (has_var rfl) has_int rfl ?_) (has_tup (has_cons has_int (has_cons has_int has_nil)) (by simp)) (eqOk_encF 0) (eqOk_encF 0))) fun hq => hast_not (hast_B (has_all (bs := ((mom u.1).zip ((mom u.1).drop 1)).map fun _ => true) (has_conv t2 ?_)))) (by simp)) (b' := false) ?_) (fun hq => absurd hq (by decide)) fun hq =>
      hasS_ret (has_conv (has_eq (has_call (has_cons (has_ix (has_var rfl) has_int rfl rfl) (has_cons (has_ix (has_var rfl) has_int rfl rfl) has_nil)) rfl ⟨u.1, u.2, rfl, hn, hc.sorted, hz, hl, rfl⟩) (has_var rfl) (eqOk_encU _) (eqOk_encU _)) ?_)) rfl
    · rw [e0]; exact at_0
    · rw [List.map_map]; rfl
    · have e1 : PyData.eqv (encF 0) (.tuple [.int 0, .int 1]) = true := (eqv_encF 0 0).trans (decide_eq_true rfl)
      rw [e1]
      have : ∀ l : List (Rat × Rat), (l.map fun _ => true).all id = true := fun l => by
        rw [List.all_map]; exact List.all_eq_true.mpr fun _ _ => rfl
      rw [this]; rfl
    · rw [eqv_encU, decide_eq_true (norm_eq ht)]
theorem momsOf_snoc (us : List Cur) (u : Cur) : momsOf (us ++ [u]) = momsOf us ++ mom u.1 := by unfold momsOf; rw [List.flatMap_append, List.flatMap_singleton]
theorem momsOf_pre {us pre suf : List Cur} (e : us = pre ++ suf) : (momsOf pre).length ≤ (momsOf us).length := by
  rw [e]; unfold momsOf; rw [List.flatMap_append, List.length_append]; omega
def F_l_c_moments (ds : List PyData) (d : PyData) : Prop := ∃ us : List Cur, ds = [.list (us.map encU)] ∧ (∀ u ∈ us, ∀ m ∈ mom u.1, Sz 1000 m) ∧ (momsOf us).length ≤ 900 ∧ us.length ≤ 900 ∧ d = .list ((once (momsOf us)).map encF)
abbrev N_l_c_moments : List Str := ["_law_curves", "_law_found", "_law_curve", "_law_corner"]
abbrev P_l_c_moments : List Str := ["_law_curves"]
theorem sc_l_c_moments : FnScope N_l_c_moments P_l_c_moments (defScope (top 83)) := ⟨rfl, rfl, rfl, by decide +kernel, rfl, by decide +kernel, by decide +kernel⟩
theorem ok_l_c_moments (T : Txt mg) (O : OddOk K) (D_l_by_size : Def P w K mg base CX0 2 "_law_by_size" P_l_by_size (spD TT K F_l_by_size 1)) (F : At K mg "_law_c_moments" 83) : Def P w K mg base CX0 3 "_law_c_moments" P_l_c_moments (spD TT K F_l_c_moments 1) := by
  have nd := sc_l_c_moments.nd
  have hu65 : ∀ {k A}, Room k A → A.units + 65 < cLine := fun r => by have := r.un; omega
  refine def_of0 F sc_l_c_moments (fun _ _ _ _ _ _ us hl => match us, hl with | [_], _ => rfl) (fun vs H Q E h => len_R h) (fun cdv A outer s H vs Q E hr h => ⟨_, (pss_cons (ps_set (i := 1) nd rfl (Or.inl rfl) (pe_lst pa_nil))
    (pss_cons (ps_for PassesOwn.never rfl (pi_seq (pv 0)) (pg_name (i := 2) nd rfl (Or.inl rfl)) (pss_one (ps_expr (pe_bm PySem.F.plainAttrs_list PySem.F.slot_list_extend PySem.F.type_list_extend mt_extend (pv 1) (pa_cons (pe_lc (own := [("_law_corner", 3)]) (g := (gName 3)) (tt := tYes) (te := (tOp (rIx K) (tVar 3) (tC (.int 0)))) rfl nd (pi_seq (pe_ix ix_seq (pv 2) pe_int (fun _ _ => rfl))) (blkOk_by (N := N_l_c_moments) (sc := defScope (top 83)) (own := [("_law_corner", 3)]) (by decide +kernel)) (fun _ _ _ _ _ => (pg_name (i := 3) nd rfl (Or.inl rfl))) (fun _ _ _ _ _ => pts_nil) (fun _ _ _ _ _ => (pe_ix ix_seq (pv 3) pe_int (fun _ _ => rfl)))) pa_nil)))))
    (pss_one (ps_ret (pe_callD D_l_by_size hr (by decide) rfl pass0 (pa_cons (pv 1) pa_nil)))))), read_D ?_ h⟩)
  rintro S ds d ⟨us, rfl, hz, hl, hn, rfl⟩ _
  refine hasS_0 (c := 0 + (0 + us.length * 0 + 0)) (hasS_seq_own (f_lst has_nil (by simp)) fun a es e => ?_) (by simp)
  subst e
  refine hasS_seq (Γ1 := [some (tyD ⟨K, TT, S⟩ (.list (us.map encU))), some (tyV (.ref a)), none, none]) (A1 := [(a, (momsOf us).map encF)])
    (hasS_for us encU (fun _ => [some (tyD ⟨K, TT, S⟩ (.list (us.map encU))), some (tyV (.ref a)), none, none]) (fun pre => [(a, (momsOf pre).map encF)]) (i_seq (has_var rfl) rfl) (.same (.same (.drop (.drop .nil)))) rfl (fun _ => rfl) (fun pre u suf ex => ⟨_, _, g_name, ?_⟩) fun Γ' w => ⟨w, rfl⟩)
    (hasS_drop (n := 1) rfl (hasS_0 (hasS_ret (has_call (has_cons (has_var rfl) has_nil) rfl ⟨momsOf us, rfl, fun q hq => ?_, hl, rfl⟩)) rfl))
  · have h1 := momsOf_pre (pre := pre ++ [u]) (suf := suf) (us := us) (by rw [ex]; simp)
    have h2 := h1
    rw [momsOf_snoc, List.length_append, List.length_map] at h2
    exact hasS_0 (hasS_extend rfl (has_le (c1 := 0 + u.1.length * (0 + 0)) (has_map u.1 encK (fun k => encF k.1) (i_seq (has_ix (has_var rfl) has_int rfl rfl) rfl) (by omega) fun k hk => ⟨_, _, g_name, by simp, has_ix (has_var rfl) has_int rfl rfl⟩) (by simp)) (by rw [List.length_map, List.length_map]; omega) rfl ⟨.same (.same (.drop (.drop .nil))), by rw [momsOf_snoc, List.map_append, List.map_map]; rfl⟩) rfl
  · obtain ⟨u, hu, hm⟩ := List.mem_flatMap.mp hq
    exact hz u hu q hm
/-- the moments at which the law looks -/
def ptsL (M : List Rat) : List Rat := M.take 1 ++ (M.zip (M.drop 1)).flatMap (fun p => [(p.1 + p.2) * (1 / 2), p.2])
def ptsOf (M : List Rat) : List Rat := ptsL M ++ [M.getLast?.getD 0 + 1 / 2, M.getLast?.getD 0 + 1, M.getLast?.getD 0 + 7]
theorem at_last {l : List PyData} {x : PyData} (h : l.getLast? = some x) : atI l (-1) = some x := by
  have hn : l ≠ [] := fun z => by rw [z] at h; cases h
  have hl : 0 < l.length := List.length_pos_iff.mpr hn
  have : ixN l.length (-1) = some (l.length - 1) := by
    unfold ixN
    rw [if_neg (by decide), if_pos (by omega)]
    congr 1; omega
  unfold atI
  rw [this, ← h, List.getLast?_eq_getElem?]; rfl
theorem cut_to1 {ds : List PyData} : cutD ds none (some 1) = ds.take 1 := by
  unfold cutD
  have h1 : HT.sIx ds.length 0 none = 0 := by unfold HT.sIx; rfl
  rw [h1]
  cases ds with
  | nil => rfl
  | cons x xs =>
    have : HT.sIx (x :: xs).length (x :: xs).length (some 1) = 1 := by
      unfold HT.sIx
      simp
      try omega
    rw [this]; rfl
theorem encF_int (n : Int) : encF (n : Rat) = .tuple [.int n, .int 1] := rfl
def F_l_c_points (ds : List PyData) (d : PyData) : Prop := ∃ us : List Cur, ds = [.list (us.map encU)] ∧ (∀ u ∈ us, ∀ m ∈ mom u.1, Sz 400 m) ∧ (momsOf us).length ≤ 900 ∧ us.length ≤ 900 ∧ momsOf us ≠ [] ∧ d = .list ((ptsOf (once (momsOf us))).map encF)
abbrev N_l_c_points : List Str := ["_law_curves", "_law_some", "_law_found", "_law_one", "_law_other"]
abbrev P_l_c_points : List Str := ["_law_curves"]
theorem sc_l_c_points : FnScope N_l_c_points P_l_c_points (defScope (top 84)) := ⟨rfl, rfl, rfl, by decide +kernel, rfl, by decide +kernel, by decide +kernel⟩
theorem ok_l_c_points (T : Txt mg) (O : OddOk K) (D_l_c_moments : Def P w K mg base CX0 3 "_law_c_moments" P_l_c_moments (spD TT K F_l_c_moments 1)) (D_l_plus : Def P w K mg base CX0 3 "_law_plus" P_l_plus (spD TT K F_l_plus 2)) (D_l_middle : Def P w K mg base CX0 4 "_law_middle" P_l_middle (spD TT K F_l_middle 2)) (F : At K mg "_law_c_points" 84) : Def P w K mg base CX0 5 "_law_c_points" P_l_c_points (spD TT K F_l_c_points 1) := by
  have nd := sc_l_c_points.nd
  have hu65 : ∀ {k A}, Room k A → A.units + 65 < cLine := fun r => by have := r.un; omega
  refine def_of0 F sc_l_c_points (fun _ _ _ _ _ _ us hl => match us, hl with | [_], _ => rfl) (fun vs H Q E h => len_R h) (fun cdv A outer s H vs Q E hr h => ⟨_, (pss_cons (ps_set (i := 1) nd rfl (Or.inl rfl) (pe_callD D_l_c_moments hr (by decide) rfl pass0 (pa_cons (pv 0) pa_nil)))
    (pss_cons (ps_set (i := 2) nd rfl (Or.inl rfl) (pe_slice (sl_list.or sl_tup) (pv 1) po_none (po_some pe_int)))
    (pss_cons (ps_for PassesOwn.never rfl (pi_zipA rfl T.fr_zip (pa_cons (pv 1) (pa_cons (pe_slice (sl_list.or sl_tup) (pv 1) (po_some pe_int) po_none) pa_nil))) (pg_tup rfl (pgs_cons (pg_name (i := 3) nd rfl (Or.inl rfl)) (pgs_cons (pg_name (i := 4) nd rfl (Or.inl rfl)) pgs_nil))) (pss_one (ps_expr (pe_bm PySem.F.plainAttrs_list PySem.F.slot_list_extend PySem.F.type_list_extend mt_extend (pv 2) (pa_cons (pe_lst (pa_cons (pe_callD D_l_middle hr (by decide) rfl pass0 (pa_cons (pv 3) (pa_cons (pv 4) pa_nil))) (pa_cons (pv 4) pa_nil))) pa_nil)))))
    (pss_one (ps_ret (pe_op op_cat (pv 2) (pe_lst (pa_cons (pe_callD D_l_plus hr (by decide) rfl pass0 (pa_cons (pe_ix ix_seq (pv 1) (pe_un un_neg pe_int) (fun _ _ => rfl)) (pa_cons (pe_tup (pa_cons pe_int (pa_cons pe_int pa_nil))) pa_nil))) (pa_cons (pe_callD D_l_plus hr (by decide) rfl pass0 (pa_cons (pe_ix ix_seq (pv 1) (pe_un un_neg pe_int) (fun _ _ => rfl)) (pa_cons (pe_tup (pa_cons pe_int (pa_cons pe_int pa_nil))) pa_nil))) (pa_cons (pe_callD D_l_plus hr (by decide) rfl pass0 (pa_cons (pe_ix ix_seq (pv 1) (pe_un un_neg pe_int) (fun _ _ => rfl)) (pa_cons (pe_tup (pa_cons pe_int (pa_cons pe_int pa_nil))) pa_nil))) pa_nil)))))))))), read_D ?_ h⟩)
  rintro S ds d ⟨us, rfl, hz, hl, hn, hne, rfl⟩ _
  have hM : ∀ m ∈ once (momsOf us), Sz 400 m := fun m hm => by
    obtain ⟨u, hu, h⟩ := List.mem_flatMap.mp (mem_once.mp hm)
    exact hz u hu m h
  have hlM : (once (momsOf us)).length ≤ 900 := Nat.le_trans length_once hl
  have hneM : once (momsOf us) ≠ [] := fun z => by
    obtain ⟨a, r, e⟩ := List.exists_cons_of_ne_nil hne
    have : a ∈ once (momsOf us) := mem_once.mpr (by rw [e]; simp)
    rw [z] at this; cases this
  have call : F_l_c_moments [.list (us.map encU)] (.list ((once (momsOf us)).map encF)) := ⟨us, rfl, fun u hu m hm => (hz u hu m hm).mono (by decide), hl, hn, rfl⟩
  generalize once (momsOf us) = M at *
  obtain ⟨x, ex⟩ : ∃ x, M.getLast? = some x := by
    cases h : M.getLast? with
    | none => exact absurd (List.getLast?_eq_none_iff.mp h) hneM
    | some x => exact ⟨x, rfl⟩
  have hx : Sz 400 x := hM x (List.mem_of_getLast? ex)
  have hlast : atI (M.map encF) (-1) = some (encF x) := at_last (by rw [List.getLast?_map, ex]; rfl)
  refine hasS_0 (c := 0 + (0 + (0 + (M.zip (M.drop 1)).length * 0 + 0))) (hasS_seq_set (has_call (has_cons (has_var rfl) has_nil) rfl call) (hasS_seq_own (f_sl (has_var rfl) ho_none (ho_some has_int)) fun a es e => ?_)) (by simp)
  subst e
  rw [cut_to1, ← List.map_take]
  refine hasS_seq (Γ1 := [some (tyD ⟨K, TT, S⟩ (.list (us.map encU))), some (tyD ⟨K, TT, S⟩ (.list (M.map encF))), some (tyV (.ref a)), none, none]) (A1 := [(a, (ptsL M).map encF)])
    (hasS_for (M.zip (M.drop 1)) (fun p => .tuple [encF p.1, encF p.2]) (fun _ => [some (tyD ⟨K, TT, S⟩ (.list (us.map encU))), some (tyD ⟨K, TT, S⟩ (.list (M.map encF))), some (tyV (.ref a)), none, none]) (fun pre => [(a, (M.take 1 ++ pre.flatMap (fun p => [(p.1 + p.2) * (1 / 2), p.2])).map encF)])
      (i_conv (i_zip (has_var rfl) (has_sl (has_var rfl) (ho_some has_int) ho_none) rfl rfl rfl) (zip_encF _)) (.same (.same (.same (.drop (.drop .nil))))) (by simp) (fun _ => rfl) (fun pre p suf ex2 => ⟨_, _, g_tup (gs_cons g_name (gs_cons g_name gs_nil)) rfl, ?_⟩) fun Γ' w => ⟨w, rfl⟩)
    (hasS_drop (n := 2) rfl (hasS_0 (hasS_ret (has_conv (has_cat (has_var rfl) (has_lst (has_cons (has_call (has_cons (has_ix (has_var rfl) (has_neg has_int) rfl hlast) (has_cons (has_conv (has_tup (has_cons has_int (has_cons has_int has_nil)) (by simp)) half_enc.symm) has_nil)) rfl ⟨_, _, rfl, fit hx half_sz (by decide), rfl⟩)
      (has_cons (has_call (has_cons (has_ix (has_var rfl) (has_neg has_int) rfl hlast) (has_cons (has_conv (has_tup (has_cons has_int (has_cons has_int has_nil)) (by simp)) (encF_int 1).symm) has_nil)) rfl ⟨_, _, rfl, fit hx (b := 2) ⟨by decide, by decide⟩ (by decide), rfl⟩)
      (has_cons (has_call (has_cons (has_ix (has_var rfl) (has_neg has_int) rfl hlast) (has_cons (has_conv (has_tup (has_cons has_int (has_cons has_int has_nil)) (by simp)) (encF_int 7).symm) has_nil)) rfl ⟨_, _, rfl, fit hx (b := 4) ⟨by decide, by decide⟩ (by decide), rfl⟩) has_nil))) (by simp)) ?_) ?_)) rfl))
  · have hp : p ∈ M.zip (M.drop 1) := by rw [ex2]; simp
    have hp1 := hM _ (List.of_mem_zip hp).1
    have hp2 := hM _ (List.mem_of_mem_drop (List.of_mem_zip hp).2)
    have hpre : pre.length ≤ 900 := by
      have := congrArg List.length ex2
      simp at this
      omega
    have hfl : ∀ l : List (Rat × Rat), (l.flatMap fun p => [(p.1 + p.2) * (1 / 2), p.2]).length = 2 * l.length := fun l => by
      induction l with
      | nil => rfl
      | cons x l ih => rw [List.flatMap_cons, List.length_append, ih]; simp; omega
    refine hasS_0 (hasS_extend rfl (has_lst (has_cons (has_call (has_cons (has_var rfl) (has_cons (has_var rfl) has_nil)) rfl ⟨p.1, p.2, rfl, hp1.mono (by decide), hp2.mono (by decide), rfl⟩) (has_cons (has_var rfl) has_nil)) (by simp)) ?_ rfl ⟨.same (.same (.same (.drop (.drop .nil)))), ?_⟩) rfl
    · rw [List.length_map, List.length_append, hfl]
      have : (M.take 1).length ≤ 1 := by rw [List.length_take]; omega
      simp; omega
    · simp [List.flatMap_append]
  · have hpl : (ptsL M).length ≤ 1 + 2 * M.length := by
      have hfl : ∀ l : List (Rat × Rat), (l.flatMap fun p => [(p.1 + p.2) * (1 / 2), p.2]).length = 2 * l.length := fun l => by
        induction l with
        | nil => rfl
        | cons x l ih => rw [List.flatMap_cons, List.length_append, ih]; simp; omega
      unfold ptsL
      rw [List.length_append, hfl, List.length_take, List.length_zip]
      omega
    rw [List.length_map]
    simp; omega
  · unfold ptsOf
    rw [ex, List.map_append]; rfl
end
end Q6
end
section
set_option maxHeartbeats 4000000
set_option exponentiation.threshold 2000000
/-! The draws. -/
namespace Q6
open PySem PySem.Spec PyProof.Rows L2 LamX RZ Qk
theorem read_S {T : List (Addr × Str)} {K : PySem.W.Frag} {N : List Str} {c : Nat} {F : List PyData → Res → Prop} {n : Nat} {t : TS} {vs : List V} {H : Hp} {Q : VK} {E : XK} (h : ∀ (S M : List Addr) (k : Nat) (ds : List PyData) (R : Res) (Q : VK), Ok ⟨K, T, S⟩ (k + c) M H → DqAll ⟨K, T, S⟩ (hide M H) vs ds → F ds R → (∀ v H', go ⟨K, T, S⟩ H H' → Ok ⟨K, T, S⟩ k M H' → R ⟨K, T, S⟩ M H v H' → Q v H') →
    t { nx := fun _ H' => Q .non H', rt := Q } (L2.start N vs) H) (s : spR T K c F n vs H Q E) : t { nx := fun _ H' => Q .non H', rt := Q } (L2.start N vs) H := by
  obtain ⟨S, M, k, ds, R, hl, ok, hd, hF, q⟩ := s
  exact h S M k ds R Q ok hd hF q
/-- the stream within a draw; G: the heap at the entry -/
structure DS (s l : Addr) (G : Hp) (ns : List Int) (sp ct mx : Int) (H : Hp) : Prop where
  ne : s ≠ l
  hs : H s = some (.lst [.ref l, .int sp, .int ct, .int mx])
  hl : H l = some (.lst (ns.map V.int))
  rest : ∀ b o, b ≠ s → b ≠ l → G b = some o → H b = some o
section
variable {s l p : Addr} {G H : Hp} {ns ms : List Int} {sp ct mx sp' ct' mx' : Int} {o : HO}
theorem DS.new (d : DS s l G ns sp ct mx H) (h : H p = none) : DS s l G ns sp ct mx (upd H p o) := by
  have k : ∀ b u, H b = some u → upd H p o b = some u := fun b u e => by rw [upd_ne (ne_of_none e h)]; exact e
  exact ⟨d.ne, k _ _ d.hs, k _ _ d.hl, fun b u n1 n2 e => k _ _ (d.rest b u n1 n2 e)⟩
theorem DS.set (d : DS s l G ns sp ct mx H) : DS s l G ns sp' ct' mx' (upd H s (.lst [.ref l, .int sp', .int ct', .int mx'])) :=
  ⟨d.ne, upd_same, by rw [upd_ne fun z => d.ne z.symm]; exact d.hl, fun b u n1 n2 e => by rw [upd_ne n1]; exact d.rest b u n1 n2 e⟩
theorem DS.pop (d : DS s l G ns sp ct mx H) : DS s l G ms sp ct mx (upd H l (.lst (ms.map V.int))) :=
  ⟨d.ne, by rw [upd_ne d.ne]; exact d.hs, upd_same, fun b u n1 n2 e => by rw [upd_ne n2]; exact d.rest b u n1 n2 e⟩
theorem DS.out {K : PySem.W.Frag} {T : List (Addr × Str)} {M : List Addr} {j k : Nat} (d : DS s l G ns sp ct mx H) (ok : Ok ⟨K, T, [s, l]⟩ j M G) (gs : ∃ xs, G s = some (.lst xs)) (gl : ∃ xs, G l = some (.lst xs)) (h1 : 0 ≤ sp) (h2 : 0 ≤ ct) (h3 : ct + k ≤ 2 ^ 40) (h4 : 0 ≤ mx) (h5 : mx < 2 ^ 31) (h6 : ns.length ≤ 100000) : go ⟨K, T, [s, l]⟩ G H ∧ Ok ⟨K, T, [s, l]⟩ k M H := by
  obtain ⟨xs, gs⟩ := gs
  obtain ⟨ys, gl⟩ := gl
  have tb : Tabs T G → Tabs T H := fun t p hp => by
    obtain ⟨ps, e1, e2, e3⟩ := t p hp
    refine ⟨ps, d.rest _ _ (fun z => by rw [z, gs] at e1; cases e1) (fun z => by rw [z, gl] at e1; cases e1) e1, e2, fun pos cv hc => ?_⟩
    obtain ⟨c, e4, e5⟩ := e3 pos cv hc
    exact ⟨c, e4, d.rest _ _ (fun z => by rw [z, gs] at e5; cases e5) (fun z => by rw [z, gl] at e5; cases e5) e5⟩
  refine ⟨⟨hide_ext fun b o nb e _ => ⟨nb, d.rest b o (fun z => nb (by rw [z]; simp)) (fun z => nb (by rw [z]; simp)) e⟩, tb⟩, ⟨fun a ha => ?_, tb ok.tabs, ok.sub, ?_⟩⟩
  · by_cases z : a = s
    · rw [z]; exact ⟨_, d.hs⟩
    · by_cases z2 : a = l
      · rw [z2]; exact ⟨_, d.hl⟩
      · obtain ⟨zs, e⟩ := ok.dom a ha
        exact ⟨zs, d.rest _ _ z z2 e⟩
  · exact .inr ⟨s, l, ns, sp, ct, mx, rfl, d.ne, d.hs, d.hl, h1, h2, h3, h4, h5, h6⟩
theorem rd {K : PySem.W.Frag} {σ : L2.St} {xs : List V} {j : Int} {v : V} {Q : VK} (e : σ[0]? = some (some (.ref s))) (h : H s = some (.lst xs)) (a : atI xs j = some v) (q : Q v H) : tOp (rIx K) (tVar 0) (tC (.int j)) σ H Q := ⟨_, e, .inl ⟨s, xs, j, v, rfl, rfl, sqL_of h, a, q⟩⟩
theorem wr {σ : L2.St} {xs : List V} {j : Int} {n : Nat} {v : V} {Q : L2.St → Hp → Prop} (e : σ[0]? = some (some (.ref s))) (h : H s = some (.lst xs)) (a : ixN xs.length j = some n) (q : Q σ (upd H s (.lst (xs.set n v)))) : gSub (tVar 0) (tC (.int j)) rSetL v σ H Q := ⟨_, e, s, xs, j, n, rfl, rfl, h, a, q⟩
theorem rd0 {K : PySem.W.Frag} {σ : L2.St} {Q : VK} (e : σ[0]? = some (some (.ref s))) (d : DS s l G ns sp ct mx H) (q : Q (.ref l) H) : tOp (rIx K) (tVar 0) (tC (.int 0)) σ H Q := rd e d.hs rfl q
theorem rd1 {K : PySem.W.Frag} {σ : L2.St} {Q : VK} (e : σ[0]? = some (some (.ref s))) (d : DS s l G ns sp ct mx H) (q : Q (.int sp) H) : tOp (rIx K) (tVar 0) (tC (.int 1)) σ H Q := rd e d.hs rfl q
theorem rd2 {K : PySem.W.Frag} {σ : L2.St} {Q : VK} (e : σ[0]? = some (some (.ref s))) (d : DS s l G ns sp ct mx H) (q : Q (.int ct) H) : tOp (rIx K) (tVar 0) (tC (.int 2)) σ H Q := rd e d.hs rfl q
theorem rd3 {K : PySem.W.Frag} {σ : L2.St} {Q : VK} (e : σ[0]? = some (some (.ref s))) (d : DS s l G ns sp ct mx H) (q : Q (.int mx) H) : tOp (rIx K) (tVar 0) (tC (.int 3)) σ H Q := rd e d.hs rfl q
theorem wr1 {σ : L2.St} {Q : L2.St → Hp → Prop} (e : σ[0]? = some (some (.ref s))) (d : DS s l G ns sp ct mx H) (q : ∀ H', DS s l G ns sp' ct mx H' → Q σ H') : gSub (tVar 0) (tC (.int 1)) rSetL (.int sp') σ H Q := wr e d.hs rfl (q _ d.set)
theorem wr2 {σ : L2.St} {Q : L2.St → Hp → Prop} (e : σ[0]? = some (some (.ref s))) (d : DS s l G ns sp ct mx H) (q : ∀ H', DS s l G ns sp ct' mx H' → Q σ H') : gSub (tVar 0) (tC (.int 2)) rSetL (.int ct') σ H Q := wr e d.hs rfl (q _ d.set)
theorem wr3 {σ : L2.St} {Q : L2.St → Hp → Prop} (e : σ[0]? = some (some (.ref s))) (d : DS s l G ns sp ct mx H) (q : ∀ H', DS s l G ns sp ct mx' H' → Q σ H') : gSub (tVar 0) (tC (.int 3)) rSetL (.int mx') σ H Q := wr e d.hs rfl (q _ d.set)
theorem seq_gen {t1 rest : TS} {D : Ends} {σ : L2.St} (I : L2.St → Hp → Prop) (h1 : ∀ nx : L2.St → Hp → Prop, (∀ σ H, I σ H → nx σ H) → t1 { D with nx := nx } σ H) (h2 : ∀ σ H, I σ H → rest D σ H) : tSeq t1 rest D σ H := h1 (rest D) h2
theorem shaped_int (i : Int) : SeqAt.shaped (.int i) = true := by simp [SeqAt.shaped, PyData.canLay0, PyData.depth]
end
theorem lay_ints (l : List Int) : PyData.canLayAll0 (l.map PyData.int) = true := by
  induction l with
  | nil => rfl
  | cons q l ih => rw [List.map_cons]; show (PyData.canLay0 (.int q) && PyData.canLayAll0 (l.map PyData.int)) = true; rw [ih]; rfl
theorem depth_ints (l : List Int) : PyData.depthAll (l.map PyData.int) = 0 := by
  induction l with
  | nil => simp [PyData.depthAll]
  | cons q l ih => rw [List.map_cons, PyData.depthAll, ih]; simp [PyData.depth]
theorem shaped_ints (l : List Int) : SeqAt.shaped (.list (l.map PyData.int)) = true := by
  unfold SeqAt.shaped
  simp only [PyData.canLay0, PyData.depth, lay_ints, depth_ints, Bool.true_and]
  exact decide_eq_true (by omega)
theorem dp_ints {K : PySem.W.Frag} {H : Hp} {l : Addr} {ns : List Int} (h : H l = some (.lst (ns.map V.int))) : Dp K H (.ref l) (.list (ns.map PyData.int)) := by
  refine .lst (sqL_of h) ?_
  clear h
  induction ns with
  | nil => exact .nil
  | cons n ns ih => exact .cons (.int n) ih
section
variable {P : Program} {w : World} {K : PySem.W.Frag} {mg : Str → Option Value} {base : Heap} {TT : List (Addr × Str)}
abbrev drawn (n : Int) : PyData → Prop := fun d => ∃ i : Int, d = .int i ∧ 0 ≤ i ∧ i < n
def F_l_draw (ds : List PyData) (R : Res) : Prop := ∃ n : Int, ds = [strD, .int n] ∧ 0 < n ∧ n ≤ 200000 ∧ R = rP (drawn n)
abbrev N_l_draw : List Str := ["_law_stream_here", "_law_many", "_law_cell", "_law_digit", "_law_mixed"]
abbrev P_l_draw : List Str := ["_law_stream_here", "_law_many"]
theorem sc_l_draw : FnScope N_l_draw P_l_draw (defScope (top 53)) := ⟨rfl, rfl, rfl, by decide +kernel, rfl, by decide +kernel, by decide +kernel⟩
theorem ok_l_draw (T : Txt mg) (O : OddOk K) (F : At K mg "_law_draw" 53) : Def P w K mg base CX0 1 "_law_draw" P_l_draw (spR TT K 1 F_l_draw 2) := by
  have nd := sc_l_draw.nd
  have hu65 : ∀ {k A}, Room k A → A.units + 65 < cLine := fun r => by have := r.un; omega
  refine def_of0 F sc_l_draw (fun _ _ _ _ _ _ us hl => match us, hl with | [_, _], _ => rfl) (fun vs H Q E h => len_R h) (fun cdv A outer s H vs Q E hr h => ⟨_, (pss_cons (ps_asg (pe_op op_add (pe_ix ix_seq (pv 0) pe_int (fun _ _ => rfl)) pe_int) (pg_sub (pv 0) pe_int set_list))
    (pss_cons (ps_while PassesOwn.never (PW.pt (pw_and (pt_cmpR (op_eqD (Room.eq hr)) (pe_ix ix_seq (pv 0) pe_int (fun _ _ => rfl)) pe_int (nomark _)) (pw_and1 (pt_cmpR (op_neD (Room.eq hr)) (pe_ix ix_seq (pv 0) pe_int (fun _ _ => rfl)) (pe_lst pa_nil) (nomark _))))) (pss_cons (ps_set (i := 2) nd rfl (Or.inl rfl) (pe_callB call_abs (by rfl) T.fr_abs bb_abs (pa_cons (pe_bm PySem.F.plainAttrs_list PySem.F.slot_list_pop PySem.F.type_list_pop mt_popAt (pe_ix ix_seq (pv 0) pe_int (fun _ _ => rfl)) (pa_cons pe_int pa_nil)) pa_nil)))
    (pss_cons (ps_asg (pe_op op_mod (pe_callTy call_int1 (by rfl) T.fr_int bb_int (pa_cons (pe_op op_add (pe_op op_add (pe_op op_mulW (pe_ix ix_seq (pv 0) pe_int (fun _ _ => rfl)) pe_int) (pv 2)) pe_int) pa_nil)) pe_int) (pg_sub (pv 0) pe_int set_list))
    (pss_one (ps_asg (pe_ifExp (pt_cmpR op_ge (pv 2) (pe_op op_pow pe_int pe_int) (nomark _)) (pv 2) pe_int) (pg_sub (pv 0) pe_int set_list))))))
    (pss_cons (ps_if (pt_cmpR op_gt (pe_ix ix_seq (pv 0) pe_int (fun _ _ => rfl)) pe_int (nomark _)) (pss_cons (ps_set (i := 3) nd rfl (Or.inl rfl) (pe_op op_mod (pe_callTy call_int1 (by rfl) T.fr_int bb_int (pa_cons (pe_ix ix_seq (pv 0) pe_int (fun _ _ => rfl)) pa_nil)) (pv 1)))
    (pss_cons (ps_asg (pe_op op_fdivW (pe_ix ix_seq (pv 0) pe_int (fun _ _ => rfl)) (pv 1)) (pg_sub (pv 0) pe_int set_list))
    (pss_one (ps_ret (pv 3))))) pss_nil)
    (pss_cons (ps_set (i := 4) nd rfl (Or.inl rfl) (pe_op op_mod (pe_callTy call_int1 (by rfl) T.fr_int bb_int (pa_cons (pe_op op_pow (pe_op op_add (pe_op op_add (pe_ix ix_seq (pv 0) pe_int (fun _ _ => rfl)) (pe_op op_mulW pe_int (pe_ix ix_seq (pv 0) pe_int (fun _ _ => rfl)))) pe_int) pe_int) pa_nil)) pe_int))
    (pss_one (ps_ret (pe_op op_mod (pe_op op_mod (pe_callTy call_int1 (by rfl) T.fr_int bb_int (pa_cons (pe_op op_pow (pe_op op_add (pe_op op_add (pe_op op_mulW (pv 4) pe_int) (pe_op op_mulW pe_int (pe_ix ix_seq (pv 0) pe_int (fun _ _ => rfl)))) pe_int) pe_int) pa_nil)) pe_int) (pv 1)))))))), read_S ?_ h⟩)
  intro S M k ds R Q ok hd ⟨n, e1, hn0, hn, eR⟩ q
  subst e1 eR
  cases hd with
  | cons h1 hd =>
  cases hd with
  | cons h2 hd =>
  cases hd
  have e2 := d_int h2
  subst e2
  cases h1 with
  | @strm s l hS =>
  have hS : S = [s, l] := hS
  subst hS
  rcases ok.str with z | ⟨s', l', ns, sp, ct, mx, hS, hne, g1, g2, b1, b2, b3, b4, b5, b6⟩
  · cases z
  cases hS
  have q : ∀ i H', 0 ≤ i → i < n → go ⟨K, TT, [s, l]⟩ H H' → Ok ⟨K, TT, [s, l]⟩ k M H' → Q (.int i) H' := fun i H' h0 h1 g o => q _ _ g o ⟨_, ⟨i, rfl, h0, h1⟩, .int i⟩
  have q : ∀ (i : Int) (H' : Hp) (ns : List Int) (sp mx : Int), 0 ≤ i → i < n → DS s l H ns sp (ct + 1) mx H' → 0 ≤ sp → 0 ≤ mx → mx < 2 ^ 31 → ns.length ≤ 100000 → Q (.int i) H' := fun i H' ns sp mx h0 h1 d c1 c2 c3 c4 => by
    obtain ⟨g, o⟩ := d.out (k := k) ok ⟨_, g1⟩ ⟨_, g2⟩ c1 (by omega) (by omega) c2 c3 c4
    exact q i H' h0 h1 g o
  have d0 : DS s l H ns sp ct mx H := ⟨hne, g1, g2, fun _ _ _ _ e => e⟩
  have hct : ct + 1 < 2 ^ 41 := by omega
  have hct0 : 0 ≤ ct + 1 := by omega
  refine rd2 rfl d0 ⟨ct, 1, rfl, rfl, wr2 rfl d0 fun H1 d1 => ?_⟩
  clear g1 g2 b3
  show tSeq (tWhile _ _) (tSeq _ _) _ _ _
  refine seq_gen (fun σ H' => ∃ ns sp mx c2, σ = [some (.ref s), some (.int n), c2, none, none] ∧ DS s l H ns sp (ct + 1) mx H' ∧ 0 ≤ sp ∧ 0 ≤ mx ∧ mx < 2 ^ 31 ∧ ns.length ≤ 100000) (fun nx hnx => ?_) ?_
  · refine ⟨fun m σ H' => ∃ ns sp mx c2, m = ns.length ∧ σ = [some (.ref s), some (.int n), c2, none, none] ∧ DS s l H ns sp (ct + 1) mx H' ∧ 0 ≤ sp ∧ 0 ≤ mx ∧ mx < 2 ^ 31 ∧ ns.length ≤ 100000, ⟨_, ns, sp, mx, none, rfl, rfl, d1, b1, b4, b5, b6⟩, ?_⟩
    clear d1 d0 b1 b4 b5 b6 b2
    rintro m σ2 H2 ⟨ns, sp, mx, c2, em, eσ, d, b1, b4, b5, b6⟩
    subst em eσ
    refine rd1 rfl d ⟨.int sp, .int 0, .int _, .int _, shaped_int _, shaped_int _, _, rfl, ?_⟩
    by_cases h0 : sp = 0
    · subst h0
      rw [if_pos (by rfl)]
      refine rd0 rfl d ⟨small_line (by simp), fun p hp => ⟨.list (ns.map .int), .list [], dp_ints (d.new hp).hl, .lst (sqL_of upd_same) .nil, shaped_ints ns, shaped_ints [], _, rfl, ?_⟩⟩
      have d := d.new (o := .lst []) hp
      generalize upd H2 p (.lst []) = H3 at d ⊢
      cases ns with
      | nil =>
        show ite _ _ _
        rw [if_neg (by exact Bool.false_ne_true)]
        exact hnx _ _ ⟨[], 0, mx, c2, rfl, d, b1, b4, b5, b6⟩
      | cons a ns =>
        show ite _ _ _
        rw [if_pos (by rfl)]
        refine ⟨_, fun σ' H' h => h, ?_⟩
        refine rd0 rfl d ⟨.inl ⟨rfl, _, sqL_of d.hl⟩, l, _, 0, 0, .int a, rfl, rfl, d.hl, by decide, by decide, ?_, rfl, a, rfl, ?_⟩
        · simp [seqIndex?]
        have d := d.pop (ms := ns)
        have hc : 0 ≤ (if a < 0 then -a else a) := by split <;> omega
        generalize (if a < 0 then -a else a) = cc at hc ⊢
        show tSeq _ _ _ _ (upd H3 l (.lst (ns.map V.int)))
        generalize upd H3 l (.lst (ns.map V.int)) = H4 at d ⊢
        refine rd3 rfl d ⟨mx, 8191, rfl, rfl, wide_mul (a := 31) (b := 14) (by omega) (by decide) (by decide) (by decide) (by decide), .int cc, rfl, _, _, rfl, rfl, _, _, rfl, rfl, .inl ⟨_, rfl, _, _, rfl, rfl, (show (0 : Int) < 2147483647 by decide), wr3 rfl d fun H5 d => ?_⟩⟩
        have m0 : 0 ≤ (mx * 8191 + cc + 3) % 2147483647 := Int.emod_nonneg _ (by decide)
        have m1 : (mx * 8191 + cc + 3) % 2147483647 < 2 ^ 31 := Int.lt_trans (Int.emod_lt_of_pos _ (by decide)) (by decide)
        refine ⟨.int cc, rfl, 10, 18, rfl, rfl, ⟨by decide, by decide, by decide⟩, _, _, rfl, rfl, _, rfl, ?_⟩
        show ite _ _ _
        split
        · exact ⟨.int cc, rfl, wr1 rfl d fun H6 d => ⟨ns.length, by simp, ns, cc, _, _, rfl, rfl, d, hc, m0, m1, by simp at b6; omega⟩⟩
        · exact wr1 rfl d fun H6 d => ⟨ns.length, by simp, ns, 0, _, _, rfl, rfl, d, by decide, m0, m1, by simp at b6; omega⟩
    · have e0 : PyData.eqv (.int sp) (.int 0) = false := by
        have : (sp == 0) = false := beq_eq_false_iff_ne.mpr h0
        exact this
      show ite _ _ _
      rw [if_neg (by rw [e0]; exact Bool.false_ne_true)]
      show ite _ _ _
      rw [if_neg Bool.false_ne_true]
      exact hnx _ _ ⟨ns, sp, mx, c2, rfl, d, b1, b4, b5, b6⟩
  · clear d1 d0 b1 b4 b5 b6 b2
    rintro σ2 H2 ⟨ns, sp, mx, c2, eσ, d, b1, b4, b5, b6⟩
    subst eσ
    show tSeq (tIfS _ _ _) (tSeq _ _) _ _ _
    refine rd1 rfl d ⟨_, _, rfl, rfl, _, rfl, ?_⟩
    by_cases h0 : 0 < sp
    · show ite _ _ _
      rw [if_pos (decide_eq_true h0)]
      refine rd1 rfl d (.inl ⟨_, rfl, .int n, rfl, _, _, rfl, rfl, hn0, rd1 rfl d ⟨.int n, rfl, _, _, rfl, rfl, wide_div hn0 (b := 18) (by omega) (by decide) (by decide), wr1 rfl d fun H3 d => ⟨_, rfl, ?_⟩⟩⟩)
      exact q _ _ _ _ _ (Int.emod_nonneg _ (by omega)) (Int.emod_lt_of_pos _ hn0) d (Int.ediv_nonneg b1 (by omega)) b4 b5 b6
    · show ite _ _ _
      rw [if_neg (by
        intro z
        exact h0 (of_decide_eq_true z))]
      refine rd3 rfl d (rd2 rfl d ⟨7919, ct + 1, rfl, rfl, wide_mul (a := 13) (b := 41) (by decide) (by omega) (by decide) (by decide) (by decide), _, _, rfl, rfl, _, _, rfl, rfl, _, _, rfl, rfl, ⟨by decide, by decide, by omega⟩, .inl ⟨_, rfl, _, _, rfl, rfl, (show (0 : Int) < 2147483629 by decide), ?_⟩⟩)
      have m0 : ∀ z : Int, 0 ≤ z % 2147483629 := fun z => Int.emod_nonneg _ (by decide)
      have m1 : ∀ z : Int, z % 2147483629 < 2147483629 := fun z => Int.emod_lt_of_pos _ (by decide)
      have m2 : ∀ mm : Int, 0 ≤ mm → mm < 2147483629 → mm.natAbs < 2 ^ 31 ∧ (mm * 48271 + 30011 * (ct + 1) + 29).natAbs < 2 ^ 64 := fun mm _ _ => by constructor <;> omega
      have m3 := m2 _ (m0 ((mx + 7919 * (ct + 1) + 104729) ^ Int.toNat 5)) (m1 ((mx + 7919 * (ct + 1) + 104729) ^ Int.toNat 5))
      refine ⟨.int _, rfl, _, 48271, rfl, rfl, wide_mul (a := 31) (b := 16) m3.1 (by decide) (by decide) (by decide) (by decide), rd2 rfl d ⟨30011, ct + 1, rfl, rfl, wide_mul (a := 15) (b := 41) (by decide) (by omega) (by decide) (by decide) (by decide), _, _, rfl, rfl, _, _, rfl, rfl, _, _, rfl, rfl, ⟨by decide, by decide, m3.2⟩, .inl ⟨_, rfl, _, _, rfl, rfl, (show (0 : Int) < 1000000007 by decide), _, rfl, _, _, rfl, rfl, hn0, ?_⟩⟩⟩
      exact q _ _ _ _ _ (Int.emod_nonneg _ (by omega)) (Int.emod_lt_of_pos _ hn0) d b1 b4 b5 b6
end
end Q6
end
section
set_option maxHeartbeats 4000000
set_option exponentiation.threshold 2000000
/-! What is drawn: picks, loose data. -/
namespace Q6
open PySem PySem.Spec PyProof.Rows L2 LamX RZ Qk
section
variable {C : Cf} {Γ : Cxt} {ta tb te : TE} {d : PyData} {ds : List PyData} {c c1 c2 : Nat} {A : Own} {B : Post} {R : Res} {t1 rest : TS} {P Q : PyData → Prop} {n : Int}
theorem hasS_seq_nvr (h : HasS C c t1 Γ A nvr R) : HasS C c (tSeq t1 rest) Γ A B R := fun M0 H0 N k σ H D a q r => h M0 H0 N k σ H { D with nx := rest D } a (fun _ _ _ _ z => z.elim) r
theorem has_subP (h : HasE C c te Γ (tyP C P)) (s : ∀ d, P d → Q d) : HasE C c te Γ (tyP C Q) := has_sub h fun v H ⟨d, h1, h2⟩ => ⟨d, s d h1, h2⟩
theorem has_ixN (ha : HasE C c1 ta Γ (tyD C d)) (hb : HasE C c2 tb Γ (tyP C (drawn n))) (e1 : seqD d = some ds) (hn : n = ds.length) : HasE C (c1 + c2) (tOp (rIx C.K) ta tb) Γ (tyP C (· ∈ ds)) := fun M k σ H Q ok st q =>
  has2 ha hb ok st fun x y H' g o1 p1 ⟨d', ⟨i, e, h0, h1⟩, p2⟩ => by
    subst e
    obtain ⟨j, rfl⟩ := Int.eq_ofNat_of_zero_le h0
    have hj : j < ds.length := by omega
    exact op_ixD (C := C) (e := ds[j]) e1 (atI_nat (List.getElem?_eq_getElem hj)) M k x y H' _ o1 p1 p2 fun v H2 g2 o2 p3 => q v H2 (g.trans g2) o2 ⟨_, List.getElem_mem hj, p3⟩
theorem hast_drawEq {j : Int} (h : HasE C c te Γ (tyP C (drawn n))) : HasT C (c + 0) (tTest (tOp (rEqD C.K) te (tC (.int j)))) Γ (fun _ => True) := fun M k σ H Q ok st q =>
  has2 h has_int ok st fun x y H' g o1 ⟨d', ⟨i, e, h0, h1⟩, p1⟩ p2 => by
    subst e
    exact op_eqQ (C := C) (eqOk_int (n := i)) (eqOk_int (n := j)) M k x y H' _ o1 p1 p2 fun v H2 g2 o2 p3 => ⟨_, d_bl p3, q _ H2 (g.trans g2) o2 trivial⟩
def F_l_pick (ds : List PyData) (R : Res) : Prop := ∃ xs, ds = [strD, .list xs] ∧ 0 < xs.length ∧ xs.length ≤ 200000 ∧ R = rP (· ∈ xs)
theorem has_drawC {E : XK} {tr : TA} (ha : HasA C c1 tr Γ (fun l => l = [strD, .int n])) (h0 : 0 < n) (h1 : n ≤ 200000) : HasE C (c1 + 1) (tCall (spR C.T C.K 1 F_l_draw 2) [] E tr) Γ (tyP C (drawn n)) :=
  has_callR ha fun l e => ⟨by rw [e]; rfl, _, ⟨n, e, h0, h1, rfl⟩, fun _ _ _ _ h => h⟩
theorem has_pickC {E : XK} {tr : TA} {xs : List PyData} (ha : HasA C c1 tr Γ (fun l => l = [strD, .list xs])) (h0 : 0 < xs.length) (h1 : xs.length ≤ 200000) : HasE C (c1 + 1) (tCall (spR C.T C.K 1 F_l_pick 2) [] E tr) Γ (tyP C (· ∈ xs)) :=
  has_callR ha fun l e => ⟨by rw [e]; rfl, _, ⟨xs, e, h0, h1, rfl⟩, fun _ _ _ _ h => h⟩
end
/-- ints within lists and tuples, of this depth -/
def Dpt : Nat → PyData → Prop
  | 0, d => ∃ i, d = .int i
  | n + 1, d => (∃ i, d = .int i) ∨ ∃ ds, seqD d = some ds ∧ ds.length ≤ 20 ∧ ∀ e ∈ ds, Dpt n e
/-- the same, as lists or tuples -/
def Lse : Nat → PyData → PyData → Prop
  | 0, d, e => e = d
  | n + 1, d, e => ((∃ i, d = .int i) ∧ e = d) ∨ ∃ ds es, seqD d = some ds ∧ Paired (Lse n) ds es ∧ seqD e = some es
def lc : Nat → Nat
  | 0 => 0
  | n + 1 => 20 * lc n + 1
def F_l_loose (n : Nat) (ds : List PyData) (R : Res) : Prop := ∃ d, ds = [strD, d] ∧ Dpt n d ∧ R = rP (Lse n d)
theorem isStrm_seq {d : PyData} {ds : List PyData} (h : seqD d = some ds) : isStrm d = false := by cases d <;> first | rfl | cases h
section
variable {P : Program} {w : World} {K : PySem.W.Frag} {mg : Str → Option Value} {base : Heap} {TT : List (Addr × Str)}
abbrev N_l_pick : List Str := ["_law_stream_here", "_law_things"]
abbrev P_l_pick : List Str := ["_law_stream_here", "_law_things"]
theorem sc_l_pick : FnScope N_l_pick P_l_pick (defScope (top 54)) := ⟨rfl, rfl, rfl, by decide +kernel, rfl, by decide +kernel, by decide +kernel⟩
theorem ok_l_pick (T : Txt mg) (O : OddOk K) (D_l_draw : Def P w K mg base CX0 1 "_law_draw" P_l_draw (spR TT K 1 F_l_draw 2)) (F : At K mg "_law_pick" 54) : Def P w K mg base CX0 2 "_law_pick" P_l_pick (spR TT K 1 F_l_pick 2) := by
  have nd := sc_l_pick.nd
  have hu65 : ∀ {k A}, Room k A → A.units + 65 < cLine := fun r => by have := r.un; omega
  refine def_of0 F sc_l_pick (fun _ _ _ _ _ _ us hl => match us, hl with | [_, _], _ => rfl) (fun vs H Q E h => len_R h) (fun cdv A outer s H vs Q E hr h => ⟨_, (pss_one (ps_ret (pe_ix ix_seq (pv 1) (pe_callD D_l_draw hr (by decide) rfl pass0 (pa_cons (pv 0) (pa_cons (pe_callB call_len_seq (by rfl) T.fr_len bb_len (pa_cons (pv 1) pa_nil)) pa_nil))) (fun _ _ => rfl)))), read_R ?_ h⟩)
  rintro S ds R ⟨xs, rfl, h0, h1, rfl⟩ _
  exact hasS_le (c1 := 0 + (0 + (0 + 0) + 1)) (hasS_retP (has_ixN (has_var rfl) (has_drawC (has_cons (has_var rfl) (has_cons (has_len (has_var rfl) rfl) has_nil)) (by omega) (by omega)) rfl rfl)) (by decide)
abbrev N_l_loose : List Str := ["_law_stream_here", "_law_thing", "_law_some", "_law_one"]
abbrev P_l_loose : List Str := ["_law_stream_here", "_law_thing"]
theorem sc_l_loose : FnScope N_l_loose P_l_loose (defScope (top 56)) := ⟨rfl, rfl, rfl, by decide +kernel, rfl, by decide +kernel, by decide +kernel⟩
theorem ok_l_loose0 (F : At K mg "_law_loose" 56) {sL : Sp} {j : Nat} (h : ∀ vs H Q E, ¬ sL vs H Q E) : Def P w K mg base CX0 (j + 1) "_law_loose" P_l_loose sL := by
  refine def_of0 F sc_l_loose (fun _ _ _ _ _ _ us hl => match us, hl with | [_, _], _ => rfl) (fun vs H Q E z => (h vs H Q E z).elim) (fun cdv A outer s H vs Q E hr z => (h vs H Q E z).elim)
theorem ok_l_loose (T : Txt mg) (O : OddOk K) {j n : Nat} {sL : Sp} (hj : 1 ≤ j) (D_l_draw : Def P w K mg base CX0 1 "_law_draw" P_l_draw (spR TT K 1 F_l_draw 2)) (D_l_loose : Def P w K mg base CX0 j "_law_loose" P_l_loose sL)
    (hs : n = 0 ∨ ∃ m, n = m + 1 ∧ sL = spR TT K (lc m) (F_l_loose m) 2) (F : At K mg "_law_loose" 56) : Def P w K mg base CX0 (j + 1) "_law_loose" P_l_loose (spR TT K (lc n) (F_l_loose n) 2) := by
  have nd := sc_l_loose.nd
  have hu65 : ∀ {k A}, Room k A → A.units + 65 < cLine := fun r => by have := r.un; omega
  refine def_of0 F sc_l_loose (fun _ _ _ _ _ _ us hl => match us, hl with | [_, _], _ => rfl) (fun vs H Q E h => len_R h) (fun cdv A outer s H vs Q E hr h => ⟨_, (pss_cons (ps_if (pt_val (pe_callB call_isFT (by rfl) T.fr_isinstance bb_isinstance (pa_cons (pv 1) (pa_cons (pe_tup (pa_cons (pe_bltn (v := .ty "list") rfl (T.fr_list) bb_list rfl) (pa_cons (pe_bltn (v := .ty "tuple") rfl (T.fr_tuple) bb_tuple rfl) pa_nil))) pa_nil)))) (pss_cons (ps_setLc (own := [("_law_one", 3)]) (g := (gName 3)) (tt := tYes) (te := (tCall (sL) [] (fun _ _ _ => False) (tCons (tVar 0) (tCons (tVar 3) tNil)))) (i := 2) rfl nd rfl rfl (sw_true rfl rfl rfl (by decide +kernel)) (pi_seq (pv 1)) (blkOk_by (N := N_l_loose) (sc := defScope (top 56)) (own := [("_law_one", 3)]) (by decide +kernel)) (fun _ _ _ _ _ => (pg_name (i := 3) nd rfl (Or.inl rfl))) (fun _ _ _ _ _ => pts_nil) (fun _ _ _ _ _ => (pe_callD D_l_loose hr (by omega) rfl pass0 (pa_cons (pv 0) (pa_cons (pv 3) pa_nil)))))
    (pss_one (ps_ret (pe_ifExp (pt_cmpR (op_eqD (Room.eq hr)) (pe_callD D_l_draw hr (by omega) rfl pass0 (pa_cons (pv 0) (pa_cons pe_int pa_nil))) pe_int (nomark _)) (pv 2) (pe_callTy call_tuple_of (by rfl) T.fr_tuple bb_tuple (pa_cons (pv 2) pa_nil)))))) pss_nil)
    (pss_one (ps_ret (pv 1)))), read_R ?_ h⟩)
  rintro S ds R ⟨d, rfl, hd, rfl⟩ _
  have hcase : (∃ i, d = .int i ∧ Lse n d d) ∨ ∃ m ds, n = m + 1 ∧ seqD d = some ds ∧ ds.length ≤ 20 ∧ ∀ e ∈ ds, Dpt m e := by
    cases n with
    | zero =>
      obtain ⟨i, e⟩ := hd
      exact .inl ⟨i, e, rfl⟩
    | succ n =>
      rcases hd with ⟨i, e⟩ | ⟨ds, es, hl, hd⟩
      · exact .inl ⟨i, e, .inl ⟨⟨i, e⟩, rfl⟩⟩
      · exact .inr ⟨n, ds, rfl, es, hl, hd⟩
  rcases hcase with ⟨i, rfl, hL⟩ | ⟨n, ds, rfl, es, hl, hd⟩
  · have t1 := hast_B (has_isiT2 (C := ⟨K, TT, S⟩) (T1 := "list") (T2 := "tuple") (d := .int i) O (has_var (Γ := cxt ⟨K, TT, S⟩ [strD, .int i] N_l_loose.length) (n := 1) rfl) rfl)
    exact hasS_le (c1 := 0 + (0 + 0)) (hasS_seqif (b := false) (c2 := 0) t1 (fun z => absurd z (by decide)) fun _ => hasS_seq_next (hasS_retP (has_any (has_var rfl) hL))) (by simp)
  · obtain ⟨m, em, es2⟩ := hs.resolve_left (by omega)
    have em : n = m := by omega
    subst em es2
    have hb : (instB (kd d) "list" || instB (kd d) "tuple") = true := by rw [isListD_eq, isListD, es]; rfl
    have t1 := hast_B (has_isiT2 (C := ⟨K, TT, S⟩) (T1 := "list") (T2 := "tuple") O (has_var (Γ := cxt ⟨K, TT, S⟩ [strD, d] N_l_loose.length) (n := 1) rfl) (isStrm_seq es))
    rw [hb] at t1
    refine hasS_le (c1 := 0 + (0 + ds.length * (0 + (0 + lc n)) + (1 + 0 + (0 + 0)) + 0)) (hasS_seqif (b := true) (c3 := 0) t1 (fun _ => hasS_seq_nvr (hasS_seq_set (has_mapP ds id (Lse n) (i_conv (i_seq (has_var rfl) es) (List.map_id ds).symm) (Nat.le_refl _) (by omega) fun x hx => ⟨_, _, g_name, by simp, has_callR (R := fun l => l = [strD, x]) (has_cons (has_var rfl) (has_cons (has_var rfl) has_nil)) fun l e => ⟨by rw [e]; rfl, _, ⟨x, e, hd x hx, rfl⟩, fun _ _ _ _ h => h⟩⟩)
        (hasS_retP (P := Lse (n + 1) d) (has_ifN (hast_drawEq (has_drawC (has_cons (has_var rfl) (has_cons has_int has_nil)) (by decide) (by decide))) (fun _ => has_subP (has_var rfl) ?_) fun _ => has_subP (has_tupleP (L := fun ys => Paired (Lse n) ds ys) (has_var rfl) fun d h => h) ?_)))) fun z => absurd z (by decide)) ?_
    · rintro e ⟨ys, rfl, hp⟩
      exact .inr ⟨ds, ys, es, hp, rfl⟩
    · rintro e ⟨ys, rfl, hp⟩
      exact .inr ⟨ds, ys, es, hp, rfl⟩
    · show _ ≤ 20 * lc n + 1
      have : ds.length * lc n ≤ 20 * lc n := Nat.mul_le_mul_right _ hl
      simp; omega
end
end Q6
end
section
set_option maxHeartbeats 4000000
set_option exponentiation.threshold 2000000
/-! Raw fractions and curves, as they are drawn. -/
namespace Q6
open PySem PySem.Spec PyProof.Rows L2 LamX RZ Qk
theorem Dpt.up : ∀ {n : Nat} {d : PyData}, Dpt n d → Dpt (n + 1) d
  | 0, _, h => .inl h
  | n + 1, _, h => by
    rcases h with h | ⟨ds, h1, h2, h3⟩
    · exact .inl h
    · exact .inr ⟨ds, h1, h2, fun e he => (h3 e he).up⟩
theorem rawF.dpt {d : PyData} {q : Rat} (h : rawF d q) : Dpt 1 d := by
  obtain ⟨n, m, e, _⟩ := h
  refine .inr ⟨_, e, by simp, fun x hx => ?_⟩
  simp only [List.mem_cons, List.not_mem_nil, or_false] at hx
  rcases hx with rfl | rfl <;> exact ⟨_, rfl⟩
theorem rawK.dpt {d : PyData} {k : Cor} (h : rawK d k) : Dpt 2 d := by
  obtain ⟨a, b, e, h1, h2⟩ := h
  refine .inr ⟨_, e, by simp, fun x hx => ?_⟩
  simp only [List.mem_cons, List.not_mem_nil, or_false] at hx
  rcases hx with rfl | rfl
  · exact h1.dpt
  · exact h2.dpt
theorem Paired.get {α β : Type} {F : α → β → Prop} : ∀ {xs : List α} {ys : List β}, Paired F xs ys → ∀ y ∈ ys, ∃ x ∈ xs, F x y
  | _, _, .nil, _, h => by cases h
  | _, _, .cons h r, y, hy => by
    rcases List.mem_cons.mp hy with e | e
    · exact ⟨_, List.mem_cons_self .., by rw [e]; exact h⟩
    · obtain ⟨x, h1, h2⟩ := Paired.get r y e
      exact ⟨x, List.mem_cons_of_mem _ h1, h2⟩
theorem Paired.len {α β : Type} {F : α → β → Prop} : ∀ {xs : List α} {ys : List β}, Paired F xs ys → xs.length = ys.length
  | _, _, .nil => rfl
  | _, _, .cons _ r => congrArg Nat.succ (Paired.len r)
theorem Paired.swap {α β : Type} {F : α → β → Prop} : ∀ {xs : List α} {ys : List β}, Paired F xs ys → Paired (fun b a => F a b) ys xs
  | _, _, .nil => .nil
  | _, _, .cons h r => .cons h (Paired.swap r)
theorem Paired.comp {α β γ : Type} {F : α → β → Prop} {G : β → γ → Prop} {Z : α → γ → Prop} (hz : ∀ a b c, F a b → G b c → Z a c) : ∀ {xs : List α} {ys : List β} {zs : List γ}, Paired F xs ys → Paired G ys zs → Paired Z xs zs
  | _, _, _, .nil, .nil => .nil
  | _, _, _, .cons h r, .cons h' r' => .cons (hz _ _ _ h h') (Paired.comp hz r r')
theorem seq_ne_int {d : PyData} {ds : List PyData} (h : seqD d = some ds) : ¬ ∃ i, d = .int i := fun ⟨i, e⟩ => by rw [e] at h; cases h
theorem lse_seq {n : Nat} {d e : PyData} {ds : List PyData} (h : Lse (n + 1) d e) (hd : seqD d = some ds) : ∃ es, Paired (Lse n) ds es ∧ seqD e = some es := by
  rcases h with ⟨h, _⟩ | ⟨ds', es, h1, h2, h3⟩
  · exact absurd h (seq_ne_int hd)
  · rw [hd] at h1; cases h1; exact ⟨es, h2, h3⟩
theorem lse_int {n : Nat} {i : Int} {e : PyData} (h : Lse n (.int i) e) : e = .int i := by
  cases n with
  | zero => exact h
  | succ n =>
    rcases h with ⟨_, h⟩ | ⟨_, _, h, _⟩
    · exact h
    · cases h
theorem lse_two {n : Nat} {d e a b : PyData} (h : Lse (n + 1) d e) (hd : seqD d = some [a, b]) : ∃ a' b', Lse n a a' ∧ Lse n b b' ∧ seqD e = some [a', b'] := by
  obtain ⟨es, hp, he⟩ := lse_seq h hd
  cases hp with
  | cons h1 hp => cases hp with
    | cons h2 hp => cases hp; exact ⟨_, _, h1, h2, he⟩
theorem lse_rawF {n : Nat} {d e : PyData} {q : Rat} (h : Lse (n + 1) d e) (r : rawF d q) : rawF e q := by
  obtain ⟨a, b, e1, h1⟩ := r
  obtain ⟨a', b', ha, hb, he⟩ := lse_two h e1
  rw [lse_int ha, lse_int hb] at he
  exact ⟨a, b, he, h1⟩
theorem lse_rawK {n : Nat} {d e : PyData} {k : Cor} (h : Lse (n + 2) d e) (r : rawK d k) : rawK e k := by
  obtain ⟨a, b, e1, h1, h2⟩ := r
  obtain ⟨a', b', ha, hb, he⟩ := lse_two h e1
  exact ⟨a', b', he, lse_rawF ha h1, lse_rawF hb h2⟩
theorem nat_sz {n b : Nat} (h : n < 2 ^ b) : ((n : Nat) : Int).natAbs < 2 ^ b := by rw [Int.natAbs_natCast]; exact h
theorem lse_rawC {n : Nat} {d e : PyData} {c : List Cor} (h : Lse (n + 3) d e) (r : rawC d c) : rawC e c := by
  obtain ⟨ds, e1, h1⟩ := r
  obtain ⟨es, hp, he⟩ := lse_seq h e1
  refine ⟨es, he, ?_⟩
  have := Paired.comp (F := fun k x => rawK x k) (G := Lse (n + 2)) (Z := fun k y => rawK y k) (fun k x y h1 h2 => lse_rawK h2 h1) (Paired.swap h1) hp
  exact Paired.swap this
theorem lse_rawU {n : Nat} {d e : PyData} {u : Cur} (h : Lse (n + 4) d e) (r : rawU d u) : rawU e u := by
  obtain ⟨a, b, e1, h1, h2⟩ := r
  obtain ⟨a', b', ha, hb, he⟩ := lse_two h e1
  exact ⟨a', b', he, lse_rawC ha h1, lse_rawF hb h2⟩
theorem raw_mul {q : Rat} {m : Int} {d : PyData} (h0 : 0 < m) (h3 : m ≤ 3) (hz : Sz 900 q) (hd : seqD d = some [.int (q.num * m), .int ((q.den : Int) * m)]) : rawF d q := by
  have hm : m.natAbs < 2 ^ 2 := by omega
  refine ⟨_, _, hd, Int.mul_pos (den_pos q) h0, ?_, ?_, ?_⟩
  · rw [Int.natAbs_mul]
    exact Nat.lt_of_lt_of_le (pow_mul_lt hz.1 hm) (Nat.pow_le_pow_right (by decide) (by decide))
  · rw [Int.natAbs_mul, Int.natAbs_natCast]
    exact Nat.lt_of_lt_of_le (pow_mul_lt hz.2 hm) (Nat.pow_le_pow_right (by decide) (by decide))
  · have h1 := rat_eq q
    have h2 := int_ne (den_pos q)
    have h3 := int_ne h0
    rw [Rat.intCast_mul, Rat.intCast_mul]
    generalize ((q.den : Int) : Rat) = D at *
    generalize (q.num : Rat) = N at *
    generalize (m : Rat) = M at *
    subst h1
    have : D * M ≠ 0 := fun z => (Rat.mul_eq_zero.mp z).elim h2 h3
    grind
section
variable {P : Program} {w : World} {K : PySem.W.Frag} {mg : Str → Option Value} {base : Heap} {TT : List (Addr × Str)}
def F_l_raw (ds : List PyData) (R : Res) : Prop := ∃ q, ds = [strD, encF q] ∧ Sz 900 q ∧ R = rP (fun d => rawF d q)
abbrev N_l_raw : List Str := ["_law_stream_here", "_law_thing", "_law_many"]
abbrev P_l_raw : List Str := ["_law_stream_here", "_law_thing"]
theorem sc_l_raw : FnScope N_l_raw P_l_raw (defScope (top 67)) := ⟨rfl, rfl, rfl, by decide +kernel, rfl, by decide +kernel, by decide +kernel⟩
theorem ok_l_raw (T : Txt mg) (O : OddOk K) (D_l_pick : Def P w K mg base CX0 2 "_law_pick" P_l_pick (spR TT K 1 F_l_pick 2)) (D_l_loose : Def P w K mg base CX0 8 "_law_loose" P_l_loose (spR TT K (lc 1) (F_l_loose 1) 2)) (F : At K mg "_law_raw" 67) : Def P w K mg base CX0 9 "_law_raw" P_l_raw (spR TT K 2 F_l_raw 2) := by
  have nd := sc_l_raw.nd
  have hu65 : ∀ {k A}, Room k A → A.units + 65 < cLine := fun r => by have := r.un; omega
  refine def_of0 F sc_l_raw (fun _ _ _ _ _ _ us hl => match us, hl with | [_, _], _ => rfl) (fun vs H Q E h => len_R h) (fun cdv A outer s H vs Q E hr h => ⟨_, (pss_cons (ps_set (i := 2) nd rfl (Or.inl rfl) (pe_callD D_l_pick hr (by decide) rfl pass0 (pa_cons (pv 0) (pa_cons (pe_lst (pa_cons pe_int (pa_cons pe_int (pa_cons pe_int (pa_cons pe_int (pa_cons pe_int pa_nil)))))) pa_nil))))
    (pss_one (ps_ret (pe_callD D_l_loose hr (by decide) rfl pass0 (pa_cons (pv 0) (pa_cons (pe_tup (pa_cons (pe_op op_mulW (pe_ix ix_seq (pv 1) pe_int (fun _ _ => rfl)) (pv 2)) (pa_cons (pe_op op_mulW (pe_ix ix_seq (pv 1) pe_int (fun _ _ => rfl)) (pv 2)) pa_nil))) pa_nil)))))), read_R ?_ h⟩)
  rintro S ds R ⟨q, rfl, hz, rfl⟩ _
  refine hasS_le (c1 := 0 + (0 + 0) + 1 + (0 + (0 + 0) + lc 1)) (hasS_seq_set (has_pickC (has_cons (has_var rfl) (has_cons (has_lst (has_cons has_int (has_cons has_int (has_cons has_int (has_cons has_int (has_cons has_int has_nil))))) (by simp)) has_nil)) (by simp) (by simp)) (hasS_open (n := 2) rfl fun d hd => ?_)) (by decide)
  obtain ⟨m, h0, h3, rfl⟩ : ∃ m : Int, 0 < m ∧ m ≤ 3 ∧ d = .int m := by
    simp only [List.mem_cons, List.not_mem_nil, or_false] at hd
    rcases hd with rfl | rfl | rfl | rfl | rfl
    all_goals exact ⟨_, by decide, by decide, rfl⟩
  have cm : ∀ {i : Int}, i.natAbs < 2 ^ 900 → CMulW i m := fun h => wide_mul (a := 900) (b := 2) h (by omega) (by decide) (by decide) (by decide)
  refine hasS_retP (P := fun d => rawF d q) (has_callR (R := fun l => l = [strD, .tuple [.int (q.num * m), .int ((q.den : Int) * m)]]) (has_cons (has_var rfl) (has_cons (has_tup (has_cons (has_ic (cm hz.1) (has_ix (has_var rfl) has_int rfl rfl) (has_var rfl)) (has_cons (has_ic (cm (nat_sz hz.2)) (has_ix (has_var rfl) has_int rfl rfl) (has_var rfl)) has_nil)) (by simp)) has_nil)) fun l e => ⟨by rw [e]; rfl, _, ⟨_, e, (raw_mul h0 h3 hz rfl).dpt, rfl⟩, fun M H v H' ⟨e, h1, h2⟩ => ⟨e, lse_rawF h1 (raw_mul h0 h3 hz rfl), h2⟩⟩)
def F_l_c_raw (ds : List PyData) (R : Res) : Prop := ∃ u : Cur, ds = [strD, encU u] ∧ (∀ k ∈ u.1, Sz 900 k.1 ∧ Sz 900 k.2) ∧ Sz 900 u.2 ∧ u.1.length ≤ 20 ∧ R = rP (fun d => rawU d u)
abbrev N_l_c_raw : List Str := ["_law_stream_here", "_law_curve", "_law_corners", "_law_pair", "_law_one"]
abbrev P_l_c_raw : List Str := ["_law_stream_here", "_law_curve"]
theorem sc_l_c_raw : FnScope N_l_c_raw P_l_c_raw (defScope (top 81)) := ⟨rfl, rfl, rfl, by decide +kernel, rfl, by decide +kernel, by decide +kernel⟩
theorem ok_l_c_raw (T : Txt mg) (O : OddOk K) (D_l_loose : Def P w K mg base CX0 8 "_law_loose" P_l_loose (spR TT K (lc 4) (F_l_loose 4) 2)) (D_l_raw : Def P w K mg base CX0 9 "_law_raw" P_l_raw (spR TT K 2 F_l_raw 2)) (F : At K mg "_law_c_raw" 81) : Def P w K mg base CX0 10 "_law_c_raw" P_l_c_raw (spR TT K 10000 F_l_c_raw 2) := by
  have nd := sc_l_c_raw.nd
  have hu65 : ∀ {k A}, Room k A → A.units + 65 < cLine := fun r => by have := r.un; omega
  refine def_of0 F sc_l_c_raw (fun _ _ _ _ _ _ us hl => match us, hl with | [_, _], _ => rfl) (fun vs H Q E h => len_R h) (fun cdv A outer s H vs Q E hr h => ⟨_, (pss_cons (ps_setLc (own := [("_law_pair", 3)]) (g := (gName 3)) (tt := tYes) (te := (tLc (iSeq K (tVar 3)) (gName 4) tYes (tCall (spR TT K 2 F_l_raw 2) [] (fun _ _ _ => False) (tCons (tVar 0) (tCons (tVar 4) tNil))) [4])) (i := 2) rfl nd rfl rfl (sw_true rfl rfl rfl (by decide +kernel)) (pi_seq (pe_ix ix_seq (pv 1) pe_int (fun _ _ => rfl))) (blkOk_by (N := N_l_c_raw) (sc := defScope (top 81)) (own := [("_law_pair", 3)]) (by decide +kernel)) (fun _ _ _ _ _ => (pg_name (i := 3) nd rfl (Or.inl rfl))) (fun _ _ _ _ _ => pts_nil) (fun _ _ _ _ _ => (pe_lc (own := [("_law_one", 4)]) (g := (gName 4)) (tt := tYes) (te := (tCall (spR TT K 2 F_l_raw 2) [] (fun _ _ _ => False) (tCons (tVar 0) (tCons (tVar 4) tNil)))) rfl nd (pi_seq (pv 3)) (blkOk_by (N := N_l_c_raw) (sc := { kind := .function, names := [(".0", .local), ("_law_pair", .local), ("_law_stream_here", .cell)], isGenerator := false, isCoroutine := false }) (own := [("_law_one", 4)]) (by decide +kernel)) (fun _ _ _ _ _ => (pg_name (i := 4) nd rfl (Or.inl rfl))) (fun _ _ _ _ _ => pts_nil) (fun _ _ _ _ _ => (pe_callD D_l_raw hr (by decide) rfl pass0 (pa_cons (pv 0) (pa_cons (pv 4) pa_nil)))))))
    (pss_one (ps_ret (pe_callD D_l_loose hr (by decide) rfl pass0 (pa_cons (pv 0) (pa_cons (pe_lst (pa_cons (pv 2) (pa_cons (pe_callD D_l_raw hr (by decide) rfl pass0 (pa_cons (pv 0) (pa_cons (pe_ix ix_seq (pv 1) pe_int (fun _ _ => rfl)) pa_nil))) pa_nil))) pa_nil)))))), read_R ?_ h⟩)
  rintro S ds R ⟨u, rfl, hc, hs, hl, rfl⟩ _
  have callRaw : ∀ {Γ : Cxt} {q : Rat} {c1 : Nat} {E : XK} {tr : TA}, Sz 900 q → HasA ⟨K, TT, S⟩ c1 tr Γ (fun l => l = [strD, encF q]) → HasE ⟨K, TT, S⟩ (c1 + 2) (tCall (spR TT K 2 F_l_raw 2) [] E tr) Γ (tyP ⟨K, TT, S⟩ (fun d => rawF d q)) := fun hq ha => has_callR ha fun l e => ⟨by rw [e]; rfl, _, ⟨_, e, hq, rfl⟩, fun _ _ _ _ h => h⟩
  refine hasS_le (c1 := 0 + 0 + 20 * (0 + (0 + 2 * (0 + (0 + (0 + 0) + 2)))) + 9000) (hasS_seq_set (has_mapP u.1 encK (fun k d => rawK d k) (i_seq (has_ix (has_var rfl) has_int rfl rfl) rfl) hl (by decide) fun k hk => ⟨_, _, g_name, by simp, has_subP (has_mapP [k.1, k.2] encF (fun q d => rawF d q) (i_seq (has_var rfl) rfl) (n := 2) (by simp) (by decide) fun q hq => ⟨_, _, g_name, by simp, callRaw (by
      simp only [List.mem_cons, List.not_mem_nil, or_false] at hq
      rcases hq with rfl | rfl
      · exact (hc k hk).1
      · exact (hc k hk).2) (has_cons (has_var rfl) (has_cons (has_var rfl) has_nil))⟩) ?_⟩) (hasS_open (n := 2) rfl fun d hd => ?_)) ?_
  · rintro d ⟨ys, rfl, hp⟩
    cases hp with
    | cons h1 hp => cases hp with
      | cons h2 hp => cases hp; exact ⟨_, _, rfl, h1, h2⟩
  · obtain ⟨ys, rfl, hp⟩ := hd
    have hyl : ys.length ≤ 20 := by have := Paired.len hp; omega
    have args : HasA ⟨K, TT, S⟩ _ _ [some (tyD ⟨K, TT, S⟩ strD), some (tyD ⟨K, TT, S⟩ (encU u)), some (tyD ⟨K, TT, S⟩ (.list ys)), none, none] _ := has_consN (P := (· = strD)) (has_any (has_var (n := 0) rfl) rfl) (has_consN (has_lstN (has_consN (P := (· = .list ys)) (has_any (has_var (n := 2) rfl) rfl) (has_consN (callRaw (E := E0) hs (has_cons (has_var (n := 0) rfl) (has_cons (has_ix (has_var (n := 1) rfl) (has_int (n := 1)) rfl rfl) has_nil))) has_nil)) (fun ds ⟨_, _, e, _, _, _, e2, _, e3⟩ => by rw [e, e2, e3]; simp)) has_nil)
    refine hasS_le (hasS_retP (P := fun d => rawU d u) (has_callR args fun l hl => ?_)) (by decide)
    obtain ⟨_, _, rfl, rfl, d2, _, rfl, ⟨ds, rfl, a, _, rfl, rfl, b, _, rfl, hb, rfl⟩, rfl⟩ := hl
    refine ⟨rfl, _, ⟨.list [.list ys, b], rfl, ?_, rfl⟩, fun M H v H' ⟨e, h1, h2⟩ => ⟨e, lse_rawU (n := 0) h1 ⟨.list ys, b, rfl, ⟨ys, rfl, Paired.swap hp⟩, hb⟩, h2⟩⟩
    refine .inr ⟨_, rfl, by simp, fun x hx => ?_⟩
    simp only [List.mem_cons, List.not_mem_nil, or_false] at hx
    rcases hx with rfl | rfl
    · refine .inr ⟨ys, rfl, hyl, fun y hy => ?_⟩
      obtain ⟨k, _, hk⟩ := Paired.get hp y hy
      exact hk.dpt
    · exact hb.dpt.up.up
  · decide
end
end Q6
end
section
set_option maxHeartbeats 4000000
set_option exponentiation.threshold 2000000
/-! Curves as they are drawn. -/
namespace Q6
open PySem PySem.Spec PyProof.Rows L2 LamX RZ Qk
/-- some int of a kind -/
abbrev tyI (C : Cf) (S : Int → Prop) : Ty := tyP C fun d => ∃ i : Int, d = .int i ∧ S i
section
variable {C : Cf} {Γ : Cxt} {ta tb te : TE} {d : PyData} {ds : List PyData} {c c1 c2 : Nat} {A : Own} {B : Post} {R : Res} {t1 rest : TS} {P Q : PyData → Prop} {S T : Int → Prop} {n : Int} {i j l : Nat}
theorem hasS_seqP {t2 : TS} {B1 : Post} (h1 : HasS C c1 t1 Γ A B1 R) (h2 : ∀ Γ' A', B1 Γ' A' → HasS C c2 t2 Γ' A' B R) : HasS C (c1 + c2) (tSeq t1 t2) Γ A B R := fun M0 H0 N k σ H D a q r =>
  h1 M0 H0 N (k + c2) σ H _ (a.le (by omega)) (fun Γ' A' σ' H' hb a' => h2 Γ' A' hb M0 H0 N k σ' H' D a' q r) fun v H' g o x => r v H' g (o.le (by omega)) x
theorem hasS_setP (h : HasE C c te Γ (tyP C P)) (hb : ∀ d, P d → B (Γ.set i (some (tyD C d))) A) : HasS C c (tAsg te (gName i)) Γ A B R := fun M0 H0 N k σ H D a q r =>
  h _ k σ H _ a.ok a.sat fun v H1 g1 o1 ⟨d, hd, p⟩ => q _ _ _ _ (hb d hd) (a.step g1 o1 ((a.sat.ext (g1.k a.ok)).set (τ := tyD C d) p))
theorem has_I {m : Int} (h : HasE C c te Γ (tyD C (.int m))) : HasE C c te Γ (tyI C (· = m)) := has_any h ⟨m, rfl, rfl⟩
theorem has_drawI (h : HasE C c te Γ (tyP C (drawn n))) : HasE C c te Γ (tyI C fun i => 0 ≤ i ∧ i < n) := h
theorem has_i2I {f : Int → Int → Int} (ha : HasE C c1 ta Γ (tyI C S)) (hb : HasE C c2 tb Γ (tyI C T)) : HasE C (c1 + c2) (tOp (rI0 fun i j => .int (f i j)) ta tb) Γ (tyI C fun k => ∃ i j, S i ∧ T j ∧ k = f i j) :=
  has_opN ha hb fun d e ⟨i, e1, h1⟩ ⟨j, e2, h2⟩ M k x y H Q ok p1 p2 q => by
    subst e1 e2
    exact op_i (C := C) M k x y H Q ok p1 p2 fun v H' g o p => q v H' g o ⟨_, ⟨_, rfl, i, j, h1, h2, rfl⟩, p⟩
theorem hasS_seq_par3N {ta : TA} {R3 : PyData → Prop} (h : HasA C c1 ta Γ (fun l => ∃ a r, l = a :: r ∧ P a ∧ ∃ b r2, r = b :: r2 ∧ Q b ∧ ∃ d r3, r2 = d :: r3 ∧ R3 d ∧ r3 = []))
    (hr : HasS C c2 rest (((Γ.set i (some (tyP C P))).set j (some (tyP C Q))).set l (some (tyP C R3))) A B R) : HasS C (c1 + c2) (tSeq (tPar3 i j l ta) rest) Γ A B R := fun M0 H0 N k σ H D a q r =>
  h _ (k + c2) σ H _ (a.le (by omega) : At0 C _ M0 H0 N A Γ σ H).ok a.sat fun vs H1 ds g1 o1 ⟨x, _, e1, hx, y, _, e2, hy, z, _, e3, hz, e4⟩ p => by
    subst e4 e3 e2 e1
    cases p with
    | cons p1 p => cases p with
      | cons p2 p => cases p with
        | cons p3 p =>
          cases p
          exact ⟨_, _, _, rfl, hr M0 H0 N k _ _ D (a.step g1 o1 ((((a.sat.ext (g1.k a.ok)).set (τ := tyP C P) ⟨x, hx, p1⟩).set (τ := tyP C Q) ⟨y, hy, p2⟩).set (τ := tyP C R3) ⟨z, hz, p3⟩)) q r⟩
theorem i_rangeI (h : HasE C c te Γ (tyI C S)) (hz : ∀ i, S i → 0 ≤ i ∧ i ≤ 100000) : HasI C c (iRng1 (tCons te tNil)) Γ (fun l => ∃ n : Nat, S n ∧ l = (List.range n).map fun i => .int (i : Nat)) := fun M k σ H R ok st q =>
  h M k σ H _ ok st fun v H1 g1 o1 ⟨d, ⟨i, e, hi⟩, p⟩ => by
    subst e
    obtain ⟨h0, h1⟩ := hz i hi
    obtain ⟨n, rfl⟩ := Int.eq_ofNat_of_zero_le h0
    exact ⟨n, by rw [d_int p], by omega, by omega, by
      rw [show ((n : Int)).toNat = n by simp]
      exact q _ _ _ g1 o1 ⟨n, hi, rfl⟩ walks_range⟩
/-- a call of a def that is a function of its data, of some data -/
theorem has_callN {F : List PyData → PyData → Prop} {m : Nat} {E : XK} {tr : TA} {L : List PyData → Prop} (ha : HasA C c1 tr Γ L) (hF : ∀ l, L l → l.length = m ∧ ∃ d, F l d ∧ P d) : HasE C (c1 + 0) (tCall (spD C.T C.K F m) [] E tr) Γ (tyP C P) :=
  has_callR ha fun l hl => by
    obtain ⟨h1, d, h2, h3⟩ := hF l hl
    exact ⟨h1, rD d, ⟨d, rfl, h2⟩, fun _ _ _ _ h => ⟨d, h3, h⟩⟩
end
/-- a multiple of a sixth, not great -/
def Gr (B : Nat) (q : Rat) : Prop := ∃ n : Int, q = (n : Rat) / ((6 : Int) : Rat) ∧ n.natAbs ≤ B
theorem Gr.mono {B B' : Nat} {q : Rat} (h : Gr B q) (l : B ≤ B') : Gr B' q := by
  obtain ⟨n, e, h⟩ := h
  exact ⟨n, e, by omega⟩
theorem gr_zero : Gr 0 0 := ⟨0, by rw [Rat.intCast_zero]; grind, by decide⟩
theorem Gr.add {B B' : Nat} {p q : Rat} (h : Gr B p) (h' : Gr B' q) : Gr (B + B') (p + q) := by
  obtain ⟨n, e, h⟩ := h
  obtain ⟨m, e', h'⟩ := h'
  refine ⟨n + m, ?_, by omega⟩
  rw [e, e', Rat.intCast_add]
  have : ((6 : Int) : Rat) ≠ 0 := int_ne (by decide)
  grind
theorem Gr.neg {B : Nat} {q : Rat} (h : Gr B q) : Gr B (-q) := by
  obtain ⟨n, e, h⟩ := h
  refine ⟨-n, ?_, by omega⟩
  rw [e, Rat.intCast_neg]
  have : ((6 : Int) : Rat) ≠ 0 := int_ne (by decide)
  grind
theorem Gr.low {n m : Int} {B : Nat} (hm : m = 1 ∨ m = 2 ∨ m = 3) (h : n.natAbs * 6 ≤ B) : Gr B ((n : Rat) / (m : Rat)) := by
  have h6 : ((6 : Int) : Rat) = 6 := rfl
  have h2 : ((2 : Int) : Rat) = 2 := rfl
  have h3 : ((3 : Int) : Rat) = 3 := rfl
  have h1 : ((1 : Int) : Rat) = 1 := rfl
  rcases hm with rfl | rfl | rfl
  · exact ⟨n * 6, by rw [Rat.intCast_mul, h6, h1]; grind, by rw [Int.natAbs_mul]; exact h⟩
  · exact ⟨n * 3, by rw [Rat.intCast_mul, h6, h2, h3]; grind, by rw [Int.natAbs_mul]; simp; omega⟩
  · exact ⟨n * 2, by rw [Rat.intCast_mul, h6, h2, h3]; grind, by rw [Int.natAbs_mul]; simp; omega⟩
theorem Gr.sz {B : Nat} {q : Rat} (h : Gr B q) (hB : B < 2 ^ 20) : Sz 20 q := by
  obtain ⟨n, e, h⟩ := h
  rw [e]
  exact sz_div (a := 20) (b := 20) (by decide) (by omega) (by decide)
/-- a drawn curve; j: how often it was changed -/
structure Dr (j : Nat) (u : Cur) : Prop where
  told : Told u
  len : u.1.length ≤ 5
  cor : ∀ k ∈ u.1, Gr 2000 k.1 ∧ Gr (1000 + 20 * j) k.2
  slp : Gr (1000 + 20 * j) u.2
theorem sorted_snoc {x : Cor} : ∀ {c : List Cor}, Sorted c → (∀ k ∈ c, k.1 < x.1) → Sorted (c ++ [x])
  | [], _, _ => trivial
  | [a], _, h => ⟨h a (by simp), trivial⟩
  | a :: b :: r, hs, h => ⟨hs.1, sorted_snoc (c := b :: r) hs.2 fun k hk => h k (List.mem_cons_of_mem _ hk)⟩
theorem abs_enc (q : Rat) : ∃ q', PyData.tuple [.int (q.num.natAbs : Nat), .int (q.den : Nat)] = encF q' ∧ (q' = q ∨ q' = -q) := by
  rcases Int.natAbs_eq q.num with h | h
  · exact ⟨q, by rw [← h]; rfl, .inl rfl⟩
  · refine ⟨-q, ?_, .inr rfl⟩
    have : ((q.num.natAbs : Nat) : Int) = -q.num := by omega
    rw [this]; rfl
theorem neg_enc (q : Rat) : ∃ q', PyData.tuple [.int (0 - ((q.num.natAbs : Nat) : Int)), .int (q.den : Nat)] = encF q' ∧ (q' = q ∨ q' = -q) := by
  rcases Int.natAbs_eq q.num with h | h
  · refine ⟨-q, ?_, .inr rfl⟩
    have : 0 - ((q.num.natAbs : Nat) : Int) = -q.num := by omega
    rw [this]; rfl
  · refine ⟨q, ?_, .inl rfl⟩
    have : 0 - ((q.num.natAbs : Nat) : Int) = q.num := by omega
    rw [this]; rfl
theorem Gr.pm {B : Nat} {p q : Rat} (h : Gr B q) (e : p = q ∨ p = -q) : Gr B p := by
  rcases e with e | e
  · rw [e]; exact h
  · rw [e]; exact h.neg
section
variable {P : Program} {w : World} {K : PySem.W.Frag} {mg : Str → Option Value} {base : Heap} {TT : List (Addr × Str)}
abbrev drU (j : Nat) : PyData → Prop := fun d => ∃ u, d = encU u ∧ Dr j u
def F_l_c_drawn (ds : List PyData) (R : Res) : Prop := ds = [strD, .int 5] ∧ R = rP (drU 0)
/-- the loop's state -/
structure Lp (bot n : Nat) (cs : List Cor) (m w : Rat) : Prop where
  len : cs.length = n
  srt : Sorted cs
  lt : ∀ k ∈ cs, k.1 < m
  zero : (cs = [] ∧ m = 0) ∨ ∃ w0 r, cs = (0, w0) :: r
  gm : Gr (42 * n) m
  gw : Gr (180 * n) w
  cor : ∀ k ∈ cs, Gr 2000 k.1 ∧ Gr 1000 k.2
abbrev N_l_c_drawn : List Str := ["_law_stream_here", "_law_most", "_law_bottom", "_law_wide", "_law_way", "_law_corners", "_law_moment", "_law_worth", "_law_k", "_law_step"]
abbrev P_l_c_drawn : List Str := ["_law_stream_here", "_law_most"]
theorem sc_l_c_drawn : FnScope N_l_c_drawn P_l_c_drawn (defScope (top 78)) := ⟨rfl, rfl, rfl, by decide +kernel, rfl, by decide +kernel, by decide +kernel⟩
theorem ok_l_c_drawn (T : Txt mg) (O : OddOk K) (D_l_c_plain : Def P w K mg base CX0 5 "_law_c_plain" P_l_c_plain (spD TT K F_l_c_plain 2)) (D_l_pick : Def P w K mg base CX0 2 "_law_pick" P_l_pick (spR TT K 1 F_l_pick 2)) (D_l_draw : Def P w K mg base CX0 1 "_law_draw" P_l_draw (spR TT K 1 F_l_draw 2)) (D_l_low : Def P w K mg base CX0 2 "_law_low" P_l_low (spD TT K F_l_low 2)) (D_l_plus : Def P w K mg base CX0 3 "_law_plus" P_l_plus (spD TT K F_l_plus 2)) (F : At K mg "_law_c_drawn" 78) : Def P w K mg base CX0 6 "_law_c_drawn" P_l_c_drawn (spR TT K 40 F_l_c_drawn 2) := by
  have nd := sc_l_c_drawn.nd
  have hu65 : ∀ {k A}, Room k A → A.units + 65 < cLine := fun r => by have := r.un; omega
  refine def_of0 F sc_l_c_drawn (fun _ _ _ _ _ _ us hl => match us, hl with | [_, _], _ => rfl) (fun vs H Q E h => len_R h) (fun cdv A outer s H vs Q E hr h => ⟨_, (pss_cons (ps_par3 (i := 2) (j := 3) (l := 4) (by rfl) nd rfl rfl rfl (by decide) (by decide) (by decide) rfl rfl rfl (pa_cons (pe_callD D_l_pick hr (by decide) rfl pass0 (pa_cons (pv 0) (pa_cons (pe_lst (pa_cons pe_int (pa_cons pe_int (pa_cons pe_int (pa_cons pe_int pa_nil))))) pa_nil))) (pa_cons (pe_callD D_l_pick hr (by decide) rfl pass0 (pa_cons (pv 0) (pa_cons (pe_lst (pa_cons pe_int (pa_cons pe_int (pa_cons pe_int pa_nil)))) pa_nil))) (pa_cons (pe_callD D_l_draw hr (by decide) rfl pass0 (pa_cons (pv 0) (pa_cons pe_int pa_nil))) pa_nil))) (by rfl))
    (pss_cons (ps_par3 (i := 5) (j := 6) (l := 7) (by rfl) nd rfl rfl rfl (by decide) (by decide) (by decide) rfl rfl rfl (pa_cons (pe_lst pa_nil) (pa_cons (pe_tup (pa_cons pe_int (pa_cons pe_int pa_nil))) (pa_cons (pe_tup (pa_cons pe_int (pa_cons pe_int pa_nil))) pa_nil))) (by rfl))
    (pss_cons (ps_for PassesOwn.never rfl (pi_range1 rfl T.fr_range (pa_cons (pe_op op_add pe_int (pe_callD D_l_draw hr (by decide) rfl pass0 (pa_cons (pv 0) (pa_cons (pv 1) pa_nil)))) pa_nil)) (pg_name (i := 8) nd rfl (Or.inl rfl)) (pss_cons (ps_set (i := 9) nd rfl (Or.inl rfl) (pe_callD D_l_low hr (by decide) rfl pass0 (pa_cons (pe_op op_sub (pe_callD D_l_draw hr (by decide) rfl pass0 (pa_cons (pv 0) (pa_cons (pe_op op_add (pe_op op_mulW pe_int (pv 3)) pe_int) pa_nil))) (pv 3)) (pa_cons (pe_callD D_l_pick hr (by decide) rfl pass0 (pa_cons (pv 0) (pa_cons (pe_lst (pa_cons pe_int (pa_cons pe_int (pa_cons (pv 2) pa_nil)))) pa_nil))) pa_nil))))
    (pss_cons (ps_set (i := 9) nd rfl (Or.inl rfl) (pe_ifExp (pt_cmpR (op_eqD (Room.eq hr)) (pv 4) pe_int (nomark _)) (pe_tup (pa_cons (pe_callB call_abs (by rfl) T.fr_abs bb_abs (pa_cons (pe_ix ix_seq (pv 9) pe_int (fun _ _ => rfl)) pa_nil)) (pa_cons (pe_ix ix_seq (pv 9) pe_int (fun _ _ => rfl)) pa_nil))) (pe_ifExp (pt_cmpR (op_eqD (Room.eq hr)) (pv 4) pe_int (nomark _)) (pe_tup (pa_cons (pe_op op_sub pe_int (pe_callB call_abs (by rfl) T.fr_abs bb_abs (pa_cons (pe_ix ix_seq (pv 9) pe_int (fun _ _ => rfl)) pa_nil))) (pa_cons (pe_ix ix_seq (pv 9) pe_int (fun _ _ => rfl)) pa_nil))) (pv 9))))
    (pss_cons (ps_set (i := 7) nd rfl (Or.inl rfl) (pe_ifExp (PW.pt (pw_or (pt_cmpR op_gt (pv 8) pe_int (nomark _)) (pw_or1 (pt_cmpR (op_neD (Room.eq hr)) (pv 4) pe_int (nomark _))))) (pe_callD D_l_plus hr (by decide) rfl pass0 (pa_cons (pv 7) (pa_cons (pv 9) pa_nil))) (pv 7)))
    (pss_cons (ps_expr (pe_bm PySem.F.plainAttrs_list PySem.F.slot_list_append PySem.F.type_list_append mt_append (pv 5) (pa_cons (pe_tup (pa_cons (pv 6) (pa_cons (pv 7) pa_nil))) pa_nil)))
    (pss_one (ps_set (i := 6) nd rfl (Or.inl rfl) (pe_callD D_l_plus hr (by decide) rfl pass0 (pa_cons (pv 6) (pa_cons (pe_callD D_l_low hr (by decide) rfl pass0 (pa_cons (pe_op op_add pe_int (pe_callD D_l_draw hr (by decide) rfl pass0 (pa_cons (pv 0) (pa_cons pe_int pa_nil)))) (pa_cons (pv 2) pa_nil))) pa_nil))))))))))
    (pss_one (ps_ret (pe_callD D_l_c_plain hr (by decide) rfl pass0 (pa_cons (pv 5) (pa_cons (pe_callD D_l_low hr (by decide) rfl pass0 (pa_cons (pe_op op_sub (pe_callD D_l_draw hr (by decide) rfl pass0 (pa_cons (pv 0) (pa_cons pe_int pa_nil))) pe_int) (pa_cons (pe_callD D_l_pick hr (by decide) rfl pass0 (pa_cons (pv 0) (pa_cons (pe_lst (pa_cons pe_int (pa_cons pe_int (pa_cons pe_int pa_nil)))) pa_nil))) pa_nil))) pa_nil)))))))), read_R ?_ h⟩)
  rintro S ds R ⟨rfl, rfl⟩ _
  refine hasS_le (c1 := _ + 30) (hasS_seq_par3N (P := (· ∈ [.int 1, .int 1, .int 2, .int 3])) (Q := (· ∈ [.int 3, .int 9, .int 30])) (R3 := drawn 6) (has_consN (has_pickC (has_cons (has_var rfl) (has_cons (has_lst (has_cons has_int (has_cons has_int (has_cons has_int (has_cons has_int has_nil)))) (by simp)) has_nil)) (by simp) (by simp)) (has_consN (has_pickC (has_cons (has_var rfl) (has_cons (has_lst (has_cons has_int (has_cons has_int (has_cons has_int has_nil))) (by simp)) has_nil)) (by simp) (by simp)) (has_consN (has_drawC (has_cons (has_var rfl) (has_cons has_int has_nil)) (by decide) (by decide)) has_nil)))
    (hasS_open (n := 2) rfl fun d hd => hasS_open (n := 3) rfl fun d2 hd2 => hasS_open (n := 4) rfl fun d3 hd3 => ?_)) (by decide)
  obtain ⟨bot, hb, rfl⟩ : ∃ m : Int, (m = 1 ∨ m = 2 ∨ m = 3) ∧ d = .int m := by
    simp only [List.mem_cons, List.not_mem_nil, or_false] at hd
    rcases hd with rfl | rfl | rfl | rfl
    all_goals exact ⟨_, by decide, rfl⟩
  obtain ⟨wide, hw, rfl⟩ : ∃ m : Int, (m = 3 ∨ m = 9 ∨ m = 30) ∧ d2 = .int m := by
    simp only [List.mem_cons, List.not_mem_nil, or_false] at hd2
    rcases hd2 with rfl | rfl | rfl
    all_goals exact ⟨_, by decide, rfl⟩
  obtain ⟨way, rfl, _⟩ := hd3
  have hw0 : 0 < wide ∧ wide ≤ 30 := by omega
  have e0 : encF 0 = .tuple [.int 0, .int 1] := rfl
  refine hasS_le (c1 := 0 + (0 + (0 + 30))) (hasS_seq_par3a (f_lst has_nil (by simp)) (has_conv (has_tup (has_cons has_int (has_cons has_int has_nil)) (by simp)) e0.symm) (has_conv (has_tup (has_cons has_int (has_cons has_int has_nil)) (by simp)) e0.symm) fun a es e => ?_) (by decide)
  subst e
  let Γ1 : Rat → Rat → Cxt := fun m w => [some (tyD ⟨K, TT, S⟩ strD), some (tyD ⟨K, TT, S⟩ (.int 5)), some (tyD ⟨K, TT, S⟩ (.int bot)), some (tyD ⟨K, TT, S⟩ (.int wide)), some (tyD ⟨K, TT, S⟩ (.int way)), some (tyV (.ref a)), some (tyD ⟨K, TT, S⟩ (encF m)), some (tyD ⟨K, TT, S⟩ (encF w)), none, none]
  have lowI : ∀ {Γ : Cxt} {c1 c2 : Nat} {t1 t2 : TE} {E : XK} {S1 S2 : Int → Prop} {B : Nat}, HasE ⟨K, TT, S⟩ c1 t1 Γ (tyI ⟨K, TT, S⟩ S1) → HasE ⟨K, TT, S⟩ c2 t2 Γ (tyI ⟨K, TT, S⟩ S2) → (∀ i, S1 i → i.natAbs * 6 ≤ B) → (∀ i, S2 i → i = 1 ∨ i = 2 ∨ i = 3) → HasE ⟨K, TT, S⟩ (c1 + (c2 + 0) + 0) (tCall (spD TT K F_l_low 2) [] E (tCons t1 (tCons t2 tNil))) Γ (tyP ⟨K, TT, S⟩ fun d => ∃ q, d = encF q ∧ Gr B q) := fun h1 h2 g1 g2 => has_callN (has_consN h1 (has_consN h2 has_nil)) fun l ⟨_, _, e1, ⟨n, e2, hn⟩, _, _, e3, ⟨m, e4, hm⟩, e5⟩ => by
    subst e5 e4 e3 e2 e1
    have := g2 m hm
    exact ⟨rfl, _, ⟨n, m, rfl, by omega, by omega, rfl⟩, _, rfl, Gr.low this (g1 n hn)⟩
  refine hasS_le (c1 := 0 + (0 + (0 + 0) + 1) + 5 * 3 + 3) (hasS_seqP (B1 := fun Γ' A' => ∃ cs m w n, Wk Γ' (Γ1 m w) ∧ A' = [(a, cs.map encK)] ∧ Lp 0 n cs m w ∧ n ≤ 5 ∧ 1 ≤ n)
    (hasS_forP (n := 5) (L := fun l => ∃ n : Nat, (1 ≤ (n : Int) ∧ (n : Int) ≤ 5) ∧ l = (List.range n).map fun i => .int (i : Nat)) (Inv := fun _ pre Γ' A' => ∃ cs m w, Wk Γ' (Γ1 m w) ∧ A' = [(a, cs.map encK)] ∧ Lp 0 pre.length cs m w) ?_ ?_ ?_ ?_ ?_ ?_) fun Γ' A' ⟨cs, m, w, n, hw, eA, lp, h5, h1⟩ => ?_) (by decide)
  · exact i_rangeI (S := fun i => 1 ≤ i ∧ i ≤ 5) (has_subP (has_i2I (has_I has_int) (has_drawC (has_cons (has_var rfl) (has_cons (has_var rfl) has_nil)) (by decide) (by decide))) (fun d ⟨i, e, x, y, h1, ⟨h2, h3⟩, h4⟩ => ⟨i, e, by subst h1; constructor <;> omega⟩)) (fun i h => by omega)
  · rintro ds ⟨n, hn, rfl⟩; simp; omega
  · intro ds _
    exact ⟨[], 0, 0, .same (.same (.same (.same (.same (.same (.same (.same (.same (.same .nil))))))))), rfl, ⟨rfl, trivial, by simp, .inl ⟨rfl, rfl⟩, gr_zero, gr_zero, by simp⟩⟩
  · rintro ds pre Γ' A' _ ⟨cs, m, w, _, rfl, _⟩; rfl
  · rintro ds pre x suf Γ' A' ⟨n, hn, rfl⟩ ex ⟨cs, m, w, hw, rfl, lp⟩
    have hx : x = .int (pre.length : Nat) ∧ pre.length < n := by
      have h : ((List.range n).map fun i => PyData.int (i : Nat))[pre.length]? = some x := by rw [ex]; simp
      rw [List.getElem?_map] at h
      rcases Nat.lt_or_ge pre.length n with z | z
      · rw [List.getElem?_range z] at h
        exact ⟨(Option.some.inj h).symm, z⟩
      · rw [List.getElem?_eq_none (by simpa using z)] at h; cases h
    obtain ⟨rfl, hpn⟩ := hx
    refine ⟨_, _, g_wk hw g_name, ?_⟩
    have cm : CMulW 2 wide := wide_mul (a := 2) (b := 6) (by decide) (by omega) (by decide) (by decide) (by decide)
    refine hasS_le (c1 := _ + (0 + 1)) (hasS_seq_set (lowI (B := 180) (has_i2I (f := fun i j => i - j) (has_drawC (n := 2 * wide + 1) (has_cons (has_var rfl) (has_cons (has_i2 (has_ic cm has_int (has_var rfl)) has_int) has_nil)) (by omega) (by omega)) (has_I (has_var rfl))) (S2 := fun i => i = 1 ∨ i = 2 ∨ i = 3) (has_subP (has_pickC (xs := [.int 1, .int 1, .int bot]) (has_cons (has_var rfl) (has_cons (has_lst (has_cons has_int (has_cons has_int (has_cons (has_var rfl) has_nil))) (by simp)) has_nil)) (by simp) (by simp)) ?_) ?_ (fun _ h => h)) (hasS_open (n := 9) rfl fun d ⟨q, e, hq⟩ => ?_)) (by decide)
    · intro d hd
      simp only [List.mem_cons, List.not_mem_nil, or_false] at hd
      rcases hd with rfl | rfl | rfl
      · exact ⟨_, rfl, by decide⟩
      · exact ⟨_, rfl, by decide⟩
      · exact ⟨_, rfl, hb⟩
    · rintro i ⟨x, y, ⟨h0, h1⟩, rfl, rfl⟩
      omega
    · subst e
      obtain ⟨qa, ea, ha⟩ := abs_enc q
      obtain ⟨qb, eb, hb2⟩ := neg_enc q
      refine hasS_le (c1 := 0 + (0 + 1)) (hasS_seq_set (τ2 := tyP ⟨K, TT, S⟩ fun d => ∃ q, d = encF q ∧ Gr 180 q) (has_le (has_if (c2 := 0) (c3 := 0) (hast_test (has_eqI (has_var rfl) has_int)) (fun _ => has_any (has_conv (has_tup (has_cons (has_abs (has_ix (has_var rfl) has_int rfl rfl)) (has_cons (has_ix (has_var rfl) has_int rfl rfl) has_nil)) (by simp)) ea) ⟨_, rfl, hq.pm ha⟩) fun _ =>
        has_le (has_if (c2 := 0) (c3 := 0) (hast_test (has_eqI (has_var rfl) has_int)) (fun _ => has_any (has_conv (has_tup (has_cons (has_i2 has_int (has_abs (has_ix (has_var rfl) has_int rfl rfl))) (has_cons (has_ix (has_var rfl) has_int rfl rfl) has_nil)) (by simp)) eb) ⟨_, rfl, hq.pm hb2⟩) fun _ => has_any (has_var rfl) ⟨_, rfl, hq⟩) (Nat.le_refl 0)) (Nat.le_refl 0)) (hasS_open (n := 9) rfl fun d ⟨st, e, hst⟩ => ?_)) (by decide)
      subst e
      have gw1 : Gr (180 * (pre.length + 1)) (w + st) := (lp.gw.add hst).mono (by omega)
      have gw2 : Gr (180 * (pre.length + 1)) w := lp.gw.mono (by omega)
      have h5 : pre.length < 5 := by omega
      have fits : ∀ {B1 B2 : Nat} {p q : Rat}, Gr B1 p → Gr B2 q → B1 < 2 ^ 20 → B2 < 2 ^ 20 → Fit p q := fun h1 h2 l1 l2 => fit (h1.sz l1) (h2.sz l2) (by decide)
      refine hasS_le (c1 := 0 + 1) (hasS_seq_set (τ2 := tyP ⟨K, TT, S⟩ fun d => ∃ w', d = encF w' ∧ Gr (180 * (pre.length + 1)) w') (has_le (has_if (c2 := 0) (c3 := 0) (hast_or (hast_test (has_b2 (has_var rfl) has_int)) fun _ => hast_test (has_neI (has_var rfl) has_int)) (fun _ => has_any (has_call (has_cons (has_var rfl) (has_cons (has_var rfl) has_nil)) rfl ⟨_, _, rfl, fits lp.gw hst (by omega) (by decide), rfl⟩) ⟨_, rfl, gw1⟩) fun _ => has_any (has_var rfl) ⟨_, rfl, gw2⟩) (Nat.le_refl 0)) (hasS_open (n := 7) rfl fun d ⟨w2, e, hw2⟩ => ?_)) (by decide)
      subst e
      have hlen : (cs.map encK).length < 100000 := by rw [List.length_map, lp.len]; omega
      have div_pos : ∀ i : Int, 1 ≤ i → (0 : Rat) < (i : Rat) / (bot : Rat) := fun i hi => by
        have h1 : (0 : Rat) < (i : Rat) := by exact_mod_cast (show (0 : Int) < i by omega)
        have h2 : (0 : Rat) < (bot : Rat) := by exact_mod_cast (show (0 : Int) < bot by omega)
        rw [Rat.div_def]
        exact Rat.mul_pos h1 (Rat.inv_pos.mpr h2)
      refine hasS_le (hasS_seq (hasS_append rfl (has_tup (has_cons (has_var rfl) (has_cons (has_var rfl) has_nil)) (by simp)) hlen rfl to_here) (hasS_setP (P := fun d => ∃ m', d = encF m' ∧ Gr (42 * (pre.length + 1)) m' ∧ m < m') (has_callN (has_consN (P := (· = encF m)) (has_any (has_var rfl) rfl) (has_consN (has_callN (P := fun d => ∃ q, d = encF q ∧ Gr 42 q ∧ 0 < q) (has_consN (has_i2I (f := fun i j => i + j) (has_I has_int) (has_drawC (has_cons (has_var rfl) (has_cons has_int has_nil)) (by decide) (by decide))) (has_consN (P := (· = .int bot)) (has_any (has_var rfl) rfl) has_nil)) fun l ⟨_, _, e1, ⟨i, e2, x, y, hx, ⟨hy0, hy1⟩, e3⟩, _, _, e4, e5, e6⟩ => ?_) has_nil)) fun l ⟨_, _, e1, e2, _, _, e3, ⟨q', e4, hq', hpos⟩, e5⟩ => ?_) fun d ⟨m', e, hm', hlt⟩ => ?_)) (by decide)
      · subst e6 e5 e4 e3 e2 e1
        subst hx
        exact ⟨rfl, _, ⟨_, bot, rfl, by omega, by omega, rfl⟩, _, rfl, Gr.low hb (by omega), div_pos _ (by omega)⟩
      · subst e5 e4 e3 e2 e1
        exact ⟨rfl, _, ⟨_, _, rfl, fits lp.gm hq' (by omega) (by decide), rfl⟩, _, rfl, (lp.gm.add hq').mono (by omega), by grind⟩
      · subst e
        refine ⟨cs ++ [(m, w2)], m', w2, .same (.same (.same (.same (.same (.same (.same (.same (.drop (.drop .nil))))))))), by rw [List.map_append]; rfl, ⟨by simp [lp.len], sorted_snoc lp.srt lp.lt, fun k hk => ?_, ?_, by simpa using hm', by simpa using hw2, fun k hk => ?_⟩⟩
        · rcases List.mem_append.mp hk with h | h
          · have := lp.lt k h; grind
          · have : k = (m, w2) := by simpa using h
            rw [this]; exact hlt
        · rcases lp.zero with ⟨z1, z2⟩ | ⟨w0, r, z⟩
          · exact .inr ⟨w2, [], by rw [z1, z2]; rfl⟩
          · exact .inr ⟨w0, r ++ [(m, w2)], by rw [z]; rfl⟩
        · rcases List.mem_append.mp hk with h | h
          · exact lp.cor k h
          · have : k = (m, w2) := by simpa using h
            rw [this]; exact ⟨lp.gm.mono (by omega), hw2.mono (by omega)⟩
  · rintro ds Γ' A' ⟨n, hn, rfl⟩ ⟨cs, m, w, hw, rfl, lp⟩
    exact ⟨cs, m, w, n, hw, rfl, by simpa using lp, by omega, by omega⟩
  · subst eA
    have hne : cs ≠ [] := fun z => by have := lp.len; rw [z] at this; simp at this; omega
    have hcrv : Crv cs := ⟨lp.zero.resolve_left fun z => hne z.1, lp.srt⟩
    have hs := lowI (E := E0) (B := 24) (Γ := (Γ1 m w).set 5 (some (tyD ⟨K, TT, S⟩ (.list (cs.map encK))))) (has_i2I (f := fun i j => i - j) (has_drawC (E := E0) (n := 9) (has_cons (has_var (n := 0) rfl) (has_cons has_int has_nil)) (by decide) (by decide)) (has_I (has_int (n := 4)))) (S2 := fun i => i = 1 ∨ i = 2 ∨ i = 3) (has_subP (has_pickC (E := E0) (xs := [.int 1, .int 1, .int 2]) (has_cons (has_var (n := 0) rfl) (has_cons (has_lst (has_cons has_int (has_cons has_int (has_cons has_int has_nil))) (by simp)) has_nil)) (by simp) (by simp)) ?_) ?_ (fun _ h => h)
    · refine hasS_wk hw (hasS_drop (n := 5) rfl (hasS_le (hasS_retP (P := drU 0) (has_callN (has_consN (P := (· = encC cs)) (has_any (has_var (n := 5) rfl) rfl) (has_consN hs has_nil)) fun l ⟨_, _, e1, e2, _, _, e3, ⟨q, e4, hq⟩, e5⟩ => ?_)) (by decide)))
      subst e5 e4 e3 e2 e1
      have hq' : Gr (1000 + 20 * 0) q := hq.mono (by decide)
      refine ⟨rfl, _, ⟨cs, q, rfl, hne, lp.srt, ⟨fun k hk => ⟨((lp.cor k hk).1.sz (by decide)).mono (by decide), ((lp.cor k hk).2.sz (by decide)).mono (by decide)⟩, (hq.sz (by decide)).mono (by decide)⟩, by have := lp.len; omega, rfl⟩, norm cs q, rfl, norm_told hcrv, ?_, fun k hk => ⟨(lp.cor k (normC_sub hk)).1, (lp.cor k (normC_sub hk)).2.mono (by decide)⟩, hq'⟩
      have h1 := normC_len (c := cs) (s := q)
      have h2 := lp.len
      show (normC cs q).length ≤ 5
      omega
    · intro d hd
      simp only [List.mem_cons, List.not_mem_nil, or_false] at hd
      rcases hd with rfl | rfl | rfl
      all_goals exact ⟨_, rfl, by decide⟩
    · rintro i ⟨x, y, ⟨h0, h1⟩, rfl, rfl⟩
      omega
end
end Q6
end
section
set_option maxHeartbeats 4000000
set_option exponentiation.threshold 2000000
/-! Curves near a drawn one. -/
namespace Q6
open PySem PySem.Spec PyProof.Rows L2 LamX RZ Qk
section
variable {C : Cf} {Γ : Cxt} {ta tb te : TE} {d : PyData} {ds : List PyData} {c c1 c2 c3 : Nat} {A : Own} {B : Post} {R : Res} {t1 rest : TS} {P Q : PyData → Prop} {S T : Int → Prop} {n i j : Nat} {l : Addr} {g : TG} {PL : List PyData → Prop}
/-- x, y = new list, some datum -/
theorem hasS_seq_par1N (h : HasF C c1 ta Γ PL) (h2 : HasE C c2 tb Γ (tyP C P)) (hr : ∀ l ds d, PL ds → P d → HasS C c3 rest ((Γ.set i (some (tyV (.ref l)))).set j (some (tyD C d))) ((l, ds) :: A) B R) : HasS C (c1 + (c2 + c3)) (tSeq (tPar i j (tCons ta (tCons tb tNil))) rest) Γ A B R := fun M0 H0 N k σ H D a q r =>
  h _ (k + (c2 + c3)) σ H _ (a.le (by omega) : At0 C _ M0 H0 N A Γ σ H).ok a.sat fun l xs ds H1 n1 nm g1 o1 hx hp p => by
    have a1 := own_fresh a g1 o1 n1 nm hx p
    refine h2 _ (k + c3) σ H1 _ (a1.le (by omega) : At0 C _ M0 H0 N _ Γ σ H1).ok a1.sat fun v H2 g2 o2 ⟨d, hd, p2⟩ => ?_
    have a2 := a1.gos g2 o2
    exact ⟨_, _, rfl, hr l ds d hp hd M0 H0 N k _ _ D (a2.step (go.refl _) a2.ok ((a2.sat.set rfl).set (τ := tyD C d) p2)) q r⟩
/-- a value is made with a look at one's own list -/
theorem peek {K' : L2.St → Hp → V → Prop} {M0 : List Addr} {H0 N : Hp} {k : Nat} {σ : L2.St} {H : Hp} (hg : Γ[n]? = some (some (tyV (.ref l)))) (h : HasE C c te (Γ.set n (some (tyD C (.list ds)))) (tyP C P)) (hP : ∀ d, P d → noList d = true) (a : At0 C (k + c) M0 H0 N ((l, ds) :: A) Γ σ H)
    {Q : VK} (q : ∀ v H' d, P d → At0 C k M0 H0 N ((l, ds) :: A) Γ σ H' → Dq C (hide (((l, ds) :: A).map (·.1) ++ M0) H') v d → Q v H') : te σ H Q := by
  obtain ⟨_, hn, xs, hx, hr⟩ := a.own (l, ds) (List.mem_cons_self ..)
  have a0 := own_drop hg a
  refine h _ k σ H _ a0.ok a0.sat fun y H1 g1 o1 ⟨d, hd, p⟩ => ?_
  have hx1 : H1 l = some (.lst xs) := g1.at (fun z => hn (a.ok0.sub _ z)) hx (fun ps z => by cases z)
  have o2 : Ok C k (((l, ds) :: A).map (·.1) ++ M0) H1 := ⟨fun b hb => by
    rcases List.mem_cons.mp hb with e | e
    · subst e; exact ⟨xs, hx1⟩
    · exact o1.dom b e, o1.tabs, a.ok.sub, o1.str⟩
  exact q y H1 d hd (a.gos g1 o2) (dq_avoid hx1 p (hP d hd))
theorem hasS_seq_asg_peek (hg : Γ[n]? = some (some (tyV (.ref l)))) (h : HasE C c1 te (Γ.set n (some (tyD C (.list ds)))) (tyP C P)) (hP : ∀ d, P d → noList d = true) (hG : ∀ d, P d → ∃ ws Δ, HasG C g ws Γ d Δ ∧ HasS C c2 rest Δ ((l, ds) :: A) B R) : HasS C (c1 + c2) (tSeq (tAsg te g) rest) Γ ((l, ds) :: A) B R := fun M0 H0 N k σ H D a q r =>
  peek (K' := fun _ _ _ => True) (k := k + c2) hg h hP (a.le (by omega)) fun v H1 d hd a1 p => by
    obtain ⟨ws, Δ, h1, h2⟩ := hG d hd
    exact h1 _ σ H1 v _ a1.sat p fun σ' s' _ => h2 M0 H0 N k σ' H1 D ⟨a1.ok, a1.ok0, a1.gone, a1.kept, a1.own, a1.nd, s'⟩ q r
/-- l[i] = e, l one's own -/
theorem hasS_seq_store {m : Nat} {at_ : Nat} (hg : Γ[n]? = some (some (tyV (.ref l)))) (hm : Γ[m]? = some (some (tyD C (.int (at_ : Nat))))) (hnm : n ≠ m) (hat : at_ < ds.length) (h : HasE C c1 te (Γ.set n (some (tyD C (.list ds)))) (tyP C P)) (hP : ∀ d, P d → noList d = true) (hr : ∀ d, P d → HasS C c2 rest Γ ((l, ds.set at_ d) :: A) B R) :
    HasS C (c1 + c2) (tSeq (tAsg te (gSub (tVar n) (tVar m) rSetL)) rest) Γ ((l, ds) :: A) B R := fun M0 H0 N k σ H D a q r =>
  peek (K' := fun _ _ _ => True) (k := k + c2) hg h hP (a.le (by omega)) fun v H1 d hd a1 p => by
    obtain ⟨x, e1, e2⟩ := a1.sat.2 n _ hg
    have e2 : x = .ref l := e2
    subst e2
    obtain ⟨y, e3, p3⟩ := a1.sat.2 m _ hm
    have e4 := d_int p3
    subst e4
    obtain ⟨_, hn, xs, hx, hr1⟩ := a1.own (l, ds) (List.mem_cons_self ..)
    have hl : at_ < xs.length := by rw [dA_len hr1]; exact hat
    refine ⟨_, e1, _, e3, l, xs, _, at_, rfl, rfl, hx, ?_, hr d hd M0 H0 N k σ _ D (own_put a1 (List.mem_cons_self ..) hx (dA_set at_ hr1 p) rfl fun p hp => ?_) q r⟩
    · unfold ixN
      rw [if_pos (by omega), if_pos (by omega)]
      congr 1
    · rcases List.mem_cons.mp hp with e | e
      · exact .inl e
      · refine .inr ⟨fun z => ?_, List.mem_cons_of_mem _ e⟩
        have nd := List.nodup_cons.mp a1.nd
        exact nd.1 (by rw [← z]; exact List.mem_map.mpr ⟨p, e, rfl⟩)
end
theorem sorted_mom : ∀ {c e : List Cor}, mom e = mom c → Sorted c → Sorted e
  | [], [], _, _ => trivial
  | [], _ :: _, h, _ => by cases h
  | _ :: _, [], h, _ => by cases h
  | [a], [b], _, _ => trivial
  | [a], b :: b' :: e, h, _ => by simp at h
  | a :: a' :: c, [b], h, _ => by simp at h
  | a :: a' :: c, b :: b' :: e, h, hs => by
    simp only [List.map_cons, List.cons.injEq] at h
    obtain ⟨h1, h2, h3⟩ := h
    exact ⟨by rw [h1, h2]; exact hs.1, sorted_mom (c := a' :: c) (e := b' :: e) (by simp [h2, h3]) hs.2⟩
theorem crv_mom {c e : List Cor} (h : mom e = mom c) (hc : Crv c) : Crv e := by
  obtain ⟨w, r, z⟩ := hc.zero
  refine ⟨?_, sorted_mom h hc.sorted⟩
  rw [z] at h
  cases e with
  | nil => cases h
  | cons b e =>
    simp only [List.map_cons, List.cons.injEq] at h
    exact ⟨b.2, e, by rw [← h.1]⟩
theorem dr_norm {j : Nat} {c : List Cor} {s : Rat} (hc : Crv c) (hl : c.length ≤ 5) (h : ∀ k ∈ c, Gr 2000 k.1 ∧ Gr (1000 + 20 * j) k.2) (hs : Gr (1000 + 20 * j) s) : Dr j (norm c s) :=
  ⟨norm_told hc, Nat.le_trans normC_len hl, fun k hk => h k (normC_sub hk), hs⟩
theorem has_lowI {C : Cf} {Γ : Cxt} {c1 c2 : Nat} {t1 t2 : TE} {E : XK} {S1 S2 : Int → Prop} {B : Nat} (h1 : HasE C c1 t1 Γ (tyI C S1)) (h2 : HasE C c2 t2 Γ (tyI C S2)) (g1 : ∀ i, S1 i → i.natAbs * 6 ≤ B) (g2 : ∀ i, S2 i → i = 1 ∨ i = 2 ∨ i = 3) : HasE C (c1 + (c2 + 0) + 0) (tCall (spD C.T C.K F_l_low 2) [] E (tCons t1 (tCons t2 tNil))) Γ (tyP C fun d => ∃ q, d = encF q ∧ Gr B q) := has_callN (has_consN h1 (has_consN h2 has_nil)) fun l ⟨_, _, e1, ⟨n, e2, hn⟩, _, _, e3, ⟨m, e4, hm⟩, e5⟩ => by
  subst e5 e4 e3 e2 e1
  have := g2 m hm
  exact ⟨rfl, _, ⟨n, m, rfl, by omega, by omega, rfl⟩, _, rfl, Gr.low this (g1 n hn)⟩
theorem gr_fit {B1 B2 : Nat} {p q : Rat} (h1 : Gr B1 p) (h2 : Gr B2 q) (l1 : B1 < 2 ^ 20) (l2 : B2 < 2 ^ 20) : Fit p q := fit (h1.sz l1) (h2.sz l2) (by decide)
theorem gr_szU {j : Nat} {c : List Cor} {s : Rat} (hj : j ≤ 100) (h : ∀ k ∈ c, Gr 2000 k.1 ∧ Gr (1000 + 20 * j) k.2) (hs : Gr (1000 + 20 * j) s) : SzU (c, s) :=
  ⟨fun k hk => ⟨((h k hk).1.sz (by decide)).mono (by decide), ((h k hk).2.sz (by omega)).mono (by decide)⟩, (hs.sz (by omega)).mono (by decide)⟩
section
variable {P : Program} {w : World} {K : PySem.W.Frag} {mg : Str → Option Value} {base : Heap} {TT : List (Addr × Str)}
def F_l_c_near (ds : List PyData) (R : Res) : Prop := ∃ j u, ds = [strD, encU u] ∧ Dr j u ∧ j ≤ 20 ∧ R = rP (drU (j + 1))
abbrev N_l_c_near : List Str := ["_law_stream_here", "_law_curve", "_law_corners", "_law_way", "_law_at", "_law_step", "_law_moment", "_law_worth"]
abbrev P_l_c_near : List Str := ["_law_stream_here", "_law_curve"]
theorem sc_l_c_near : FnScope N_l_c_near P_l_c_near (defScope (top 79)) := ⟨rfl, rfl, rfl, by decide +kernel, rfl, by decide +kernel, by decide +kernel⟩
theorem ok_l_c_near (T : Txt mg) (O : OddOk K) (D_l_c_plain : Def P w K mg base CX0 5 "_law_c_plain" P_l_c_plain (spD TT K F_l_c_plain 2)) (D_l_draw : Def P w K mg base CX0 1 "_law_draw" P_l_draw (spR TT K 1 F_l_draw 2)) (D_l_low : Def P w K mg base CX0 2 "_law_low" P_l_low (spD TT K F_l_low 2)) (D_l_plus : Def P w K mg base CX0 3 "_law_plus" P_l_plus (spD TT K F_l_plus 2)) (D_l_pick : Def P w K mg base CX0 2 "_law_pick" P_l_pick (spR TT K 1 F_l_pick 2)) (F : At K mg "_law_c_near" 79) : Def P w K mg base CX0 6 "_law_c_near" P_l_c_near (spR TT K 10 F_l_c_near 2) := by
  have nd := sc_l_c_near.nd
  have hu65 : ∀ {k A}, Room k A → A.units + 65 < cLine := fun r => by have := r.un; omega
  refine def_of0 F sc_l_c_near (fun _ _ _ _ _ _ us hl => match us, hl with | [_, _], _ => rfl) (fun vs H Q E h => len_R h) (fun cdv A outer s H vs Q E hr h => ⟨_, (pss_cons (ps_par (i := 2) (j := 3) (by rfl) nd rfl rfl (by decide) rfl rfl (pa_cons (pe_callTy call_list_of (by rfl) T.fr_list bb_list (pa_cons (pe_ix ix_seq (pv 1) pe_int (fun _ _ => rfl)) pa_nil)) (pa_cons (pe_callD D_l_draw hr (by decide) rfl pass0 (pa_cons (pv 0) (pa_cons pe_int pa_nil))) pa_nil)) (by rfl))
    (pss_cons (ps_asg (pe_tup (pa_cons (pe_callD D_l_draw hr (by decide) rfl pass0 (pa_cons (pv 0) (pa_cons (pe_callB call_len_seq (by rfl) T.fr_len bb_len (pa_cons (pv 2) pa_nil)) pa_nil))) (pa_cons (pe_callD D_l_low hr (by decide) rfl pass0 (pa_cons (pe_op op_sub (pe_callD D_l_draw hr (by decide) rfl pass0 (pa_cons (pv 0) (pa_cons pe_int pa_nil))) pe_int) (pa_cons (pe_callD D_l_pick hr (by decide) rfl pass0 (pa_cons (pv 0) (pa_cons (pe_lst (pa_cons pe_int (pa_cons pe_int pa_nil))) pa_nil))) pa_nil))) pa_nil))) (pg_tup rfl (pgs_cons (pg_name (i := 4) nd rfl (Or.inl rfl)) (pgs_cons (pg_name (i := 5) nd rfl (Or.inr rfl)) pgs_nil))))
    (pss_cons (ps_if (pt_cmpR (op_eqD (Room.eq hr)) (pv 3) pe_int (nomark _)) (pss_one (ps_ret (pe_callD D_l_c_plain hr (by decide) rfl pass0 (pa_cons (pe_lc (own := [("_law_moment", 6), ("_law_worth", 7)]) (g := (gTup K 2 (gCons (gName 6) (gCons (gName 7) gNil)))) (tt := tYes) (te := (tTup (tCons (tVar 6) (tCons (tCall (spD TT K F_l_plus 2) [] (fun _ _ _ => False) (tCons (tVar 7) (tCons (tVar 5) tNil))) tNil)))) rfl nd (pi_seq (pv 2)) (blkOk_by (N := N_l_c_near) (sc := defScope (top 79)) (own := [("_law_moment", 6), ("_law_worth", 7)]) (by decide +kernel)) (fun _ _ _ _ _ => (pg_tup rfl (pgs_cons (pg_name (i := 6) nd rfl (Or.inl rfl)) (pgs_cons (pg_name (i := 7) nd rfl (Or.inl rfl)) pgs_nil)))) (fun _ _ _ _ _ => pts_nil) (fun _ _ _ _ _ => (pe_tup (pa_cons (pv 6) (pa_cons (pe_callD D_l_plus hr (by decide) rfl pass0 (pa_cons (pv 7) (pa_cons (pv 5) pa_nil))) pa_nil))))) (pa_cons (pe_ix ix_seq (pv 1) pe_int (fun _ _ => rfl)) pa_nil))))) pss_nil)
    (pss_cons (ps_if (pt_cmpR (op_eqD (Room.eq hr)) (pv 3) pe_int (nomark _)) (pss_one (ps_ret (pe_callD D_l_c_plain hr (by decide) rfl pass0 (pa_cons (pv 2) (pa_cons (pe_callD D_l_plus hr (by decide) rfl pass0 (pa_cons (pe_ix ix_seq (pv 1) pe_int (fun _ _ => rfl)) (pa_cons (pv 5) pa_nil))) pa_nil))))) pss_nil)
    (pss_cons (ps_asg (pe_tup (pa_cons (pe_ix ix_seq (pe_ix ix_seq (pv 2) (pv 4) (fun _ _ => rfl)) pe_int (fun _ _ => rfl)) (pa_cons (pe_callD D_l_plus hr (by decide) rfl pass0 (pa_cons (pe_ix ix_seq (pe_ix ix_seq (pv 2) (pv 4) (fun _ _ => rfl)) pe_int (fun _ _ => rfl)) (pa_cons (pv 5) pa_nil))) pa_nil))) (pg_sub (pv 2) (pv 4) set_list))
    (pss_one (ps_ret (pe_callD D_l_c_plain hr (by decide) rfl pass0 (pa_cons (pv 2) (pa_cons (pe_ix ix_seq (pv 1) pe_int (fun _ _ => rfl)) pa_nil)))))))))), read_R ?_ h⟩)
  rintro S ds R ⟨j, u, rfl, hu, hj, rfl⟩ _
  have hc := hu.told.crv
  have hn : 0 < u.1.length := by obtain ⟨w0, r, e⟩ := hc.zero; rw [e]; simp
  have plain : ∀ {Γ : Cxt} {c1 c2 : Nat} {t1 t2 : TE} {E : XK} {c : List Cor} {s : Rat}, HasE ⟨K, TT, S⟩ c1 t1 Γ (tyD ⟨K, TT, S⟩ (encC c)) → HasE ⟨K, TT, S⟩ c2 t2 Γ (tyD ⟨K, TT, S⟩ (encF s)) → mom c = mom u.1 → (∀ k ∈ c, Gr (1000 + 20 * (j + 1)) k.2) → Gr (1000 + 20 * (j + 1)) s → HasE ⟨K, TT, S⟩ (c1 + (c2 + 0) + 0) (tCall (spD TT K F_l_c_plain 2) [] E (tCons t1 (tCons t2 tNil))) Γ (tyP ⟨K, TT, S⟩ (drU (j + 1))) := fun {Γ c1 c2 t1 t2 E c s} h1 h2 hm hg hs => by
    have hl : c.length = u.1.length := by have := congrArg List.length hm; simpa using this
    have hl2 := hu.len
    have hcc := crv_mom hm hc
    have cor : ∀ k ∈ c, Gr 2000 k.1 ∧ Gr (1000 + 20 * (j + 1)) k.2 := fun k hk => ⟨by
      have : k.1 ∈ mom u.1 := by rw [← hm]; exact List.mem_map.mpr ⟨k, hk, rfl⟩
      obtain ⟨k', h1, h2⟩ := List.mem_map.mp this
      rw [← h2]; exact (hu.cor k' h1).1, hg k hk⟩
    refine has_any (has_call (has_cons h1 (has_cons h2 has_nil)) rfl ⟨c, s, rfl, fun z => by rw [z] at hl; simp at hl; omega, hcc.sorted, gr_szU (by omega) cor hs, by omega, rfl⟩) ⟨_, rfl, dr_norm hcc (by omega) cor hs⟩
  refine hasS_le (c1 := 0 + 0 + (_ + 5)) (hasS_seq_par1N (f_list (has_ix (has_var rfl) has_int rfl rfl) rfl) (has_drawC (has_cons (has_var rfl) (has_cons has_int has_nil)) (by decide) (by decide)) fun a es d e ⟨way, hd, _⟩ => ?_) (by decide)
  subst e hd
  refine hasS_le (c1 := _ + 0) (hasS_seq_asg_peek (n := 2) rfl (has_tupN (has_consN (has_drawC (n := ((u.1.map encK).length : Nat)) (has_cons (has_var rfl) (has_cons (has_len (has_var rfl) rfl) has_nil)) (by simpa using hn) (by have := hu.len; simp; omega)) (has_consN (has_lowI (B := 18) (has_i2I (f := fun i j => i - j) (has_drawC (n := 7) (has_cons (has_var rfl) (has_cons has_int has_nil)) (by decide) (by decide)) (has_I has_int)) (S2 := fun i => i = 1 ∨ i = 2 ∨ i = 3) (has_subP (has_pickC (xs := [.int 1, .int 2]) (has_cons (has_var rfl) (has_cons (has_lst (has_cons has_int (has_cons has_int has_nil)) (by simp)) has_nil)) (by simp) (by simp)) ?_) ?_ (fun _ h => h)) has_nil)) ?_) ?_ ?_) (by decide)
  · intro d hd
    simp only [List.mem_cons, List.not_mem_nil, or_false] at hd
    rcases hd with rfl | rfl
    all_goals exact ⟨_, rfl, by decide⟩
  · rintro i ⟨x, y, ⟨h0, h1⟩, rfl, rfl⟩
    omega
  · rintro ds ⟨_, _, rfl, _, _, _, rfl, _, rfl⟩; simp
  · rintro d ⟨ds, rfl, _, _, rfl, ⟨i, rfl, _⟩, _, _, rfl, ⟨q, rfl, _⟩, rfl⟩; simp [noList, noListAll, encF]
  · rintro d ⟨ds, rfl, _, _, rfl, ⟨i, rfl, hi0, hi1⟩, _, _, rfl, ⟨st, rfl, hst⟩, rfl⟩
    obtain ⟨at_, rfl⟩ := Int.eq_ofNat_of_zero_le hi0
    have hat : at_ < u.1.length := by simpa using hi1
    obtain ⟨k, hk⟩ : ∃ k, u.1[at_]? = some k := ⟨_, List.getElem?_eq_getElem hat⟩
    have hkm := List.mem_of_getElem? hk
    refine ⟨_, _, g_tup (gs_cons g_name (gs_cons g_name gs_nil)) rfl, ?_⟩
    refine hasS_0 (hasS_seqif (c2 := 0) (c3 := 0) (hast_test (has_eqI (has_var rfl) has_int)) (fun _ => hasS_seq_nvr (hasS_drop (n := 2) rfl (hasS_0 (hasS_retP (plain (c := u.1.map fun k => (k.1, k.2 + st)) (has_conv (has_le (c1 := 0 + u.1.length * (0 + 0)) (has_map u.1 encK (fun k => encK (k.1, k.2 + st)) (i_seq (has_var rfl) rfl) (by have := hu.len; omega) fun k hk => ⟨_, _, g_tup (gs_cons g_name (gs_cons g_name gs_nil)) rfl, by simp, has_tup (has_cons (has_var rfl) (has_cons (has_call (has_cons (has_var rfl) (has_cons (has_var rfl) has_nil)) rfl ⟨_, _, rfl, gr_fit (hu.cor k hk).2 hst (by omega) (by decide), rfl⟩) has_nil)) (by simp)⟩) (by simp)) ?_) (has_ix (has_var rfl) has_int rfl rfl) ?_ ?_ ?_)) rfl))) fun _ => hasS_seq_next
      (hasS_0 (hasS_seqif (c2 := 0) (c3 := 0) (hast_test (has_eqI (has_var rfl) has_int)) (fun _ => hasS_seq_nvr (hasS_drop (n := 2) rfl (hasS_0 (hasS_retP (plain (has_var rfl) (has_call (has_cons (has_ix (has_var rfl) has_int rfl rfl) (has_cons (has_var rfl) has_nil)) rfl ⟨_, _, rfl, gr_fit hu.slp hst (by omega) (by decide), rfl⟩) rfl ?_ ?_)) rfl))) fun _ => hasS_seq_next
      (hasS_0 (hasS_seq_store (n := 2) (m := 4) (c2 := 0) rfl rfl (by decide) (by rw [List.length_map]; exact hat) (P := (· = encK (k.1, k.2 + st))) (has_any (has_tup (has_cons (has_ix (has_ix (has_var rfl) (has_var rfl) rfl (atI_nat (by rw [List.getElem?_map, hk]; rfl))) has_int rfl rfl) (has_cons (has_call (has_cons (has_ix (has_ix (has_var rfl) (has_var rfl) rfl (atI_nat (by rw [List.getElem?_map, hk]; rfl))) has_int rfl rfl) (has_cons (has_var rfl) has_nil)) rfl ⟨_, _, rfl, gr_fit (hu.cor k hkm).2 hst (by omega) (by decide), rfl⟩) has_nil)) (by simp)) rfl) (fun d e => by rw [e]; rfl) fun d e => ?_) rfl)) rfl)) rfl
    · unfold encC; rw [List.map_map]; rfl
    · show List.map _ (List.map _ _) = _
      rw [List.map_map]; rfl
    · intro k hk
      obtain ⟨k', hk', e⟩ := List.mem_map.mp hk
      rw [← e]; exact ((hu.cor k' hk').2.add hst).mono (by omega)
    · exact hu.slp.mono (by omega)
    · exact fun k hk => (hu.cor k hk).2.mono (by omega)
    · exact (hu.slp.add hst).mono (by omega)
    · subst e
      have es : (u.1.map encK).set at_ (encK (k.1, k.2 + st)) = (u.1.set at_ (k.1, k.2 + st)).map encK := by rw [List.map_set]
      rw [es]
      refine hasS_drop (n := 2) rfl (hasS_0 (hasS_retP (plain (c := u.1.set at_ (k.1, k.2 + st)) (has_var rfl) (has_ix (has_var rfl) has_int rfl rfl) ?_ ?_ (hu.slp.mono (by omega)))) rfl)
      · show List.map _ (List.set _ _ _) = _
        rw [List.map_set]
        apply List.ext_getElem?
        intro i
        by_cases q : at_ = i
        · subst q
          rw [List.getElem?_set_self (by simpa using hat), List.getElem?_map, hk]; rfl
        · rw [List.getElem?_set_ne q]
      · intro k' hk'
        rcases List.mem_or_eq_of_mem_set hk' with h | h
        · exact (hu.cor k' h).2.mono (by omega)
        · rw [h]; exact ((hu.cor k hkm).2.add hst).mono (by omega)
end
end Q6
end
section
set_option maxHeartbeats 4000000
set_option exponentiation.threshold 2000000
/-! Curves with more corners than they need. -/
namespace Q6
open PySem PySem.Spec PyProof.Rows L2 LamX RZ Qk
section
variable {C : Cf} {Γ : Cxt} {ta tb te : TE} {d : PyData} {ds : List PyData} {c c1 c2 c3 : Nat} {A : Own} {B : Post} {R : Res} {t1 t2 rest : TS} {t : TT} {P Q : PyData → Prop} {S T : Int → Prop} {n i j : Nat} {l : Addr} {g : TG}
theorem hasS_seq_asgN (h : HasE C c1 te Γ (tyP C P)) (hG : ∀ d, P d → ∃ ws Δ, HasG C g ws Γ d Δ ∧ HasS C c2 rest Δ A B R) : HasS C (c1 + c2) (tSeq (tAsg te g) rest) Γ A B R := fun M0 H0 N k σ H D a q r =>
  h _ (k + c2) σ H _ (a.le (by omega) : At0 C _ M0 H0 N A Γ σ H).ok a.sat fun v H1 g1 o1 ⟨d, hd, p⟩ => by
    obtain ⟨ws, Δ, h1, h2⟩ := hG d hd
    exact h1 _ σ H1 v _ (a.sat.ext (g1.k a.ok)) p fun σ' s' _ => h2 M0 H0 N k σ' H1 D (a.step g1 o1 s') q r
theorem hasS_if_peekN (hg : Γ[n]? = some (some (tyV (.ref l)))) (h : HasT C c1 t (Γ.set n (some (tyD C (.list ds)))) (fun _ => True)) (h1 : HasS C c2 t1 Γ ((l, ds) :: A) B R) (h2 : HasS C c3 t2 Γ ((l, ds) :: A) B R) : HasS C (c1 + (c2 + c3)) (tIfS t t1 t2) Γ ((l, ds) :: A) B R := fun M0 H0 N k σ H D a q r => by
  obtain ⟨_, hn, xs, hx, hr⟩ := a.own (l, ds) (List.mem_cons_self ..)
  have a' : At0 C (k + (c2 + c3) + c1) M0 H0 N ((l, ds) :: A) Γ σ H := a.le (by omega)
  have a0 := own_drop hg a'
  refine h _ (k + (c2 + c3)) σ H _ a0.ok a0.sat fun b H1 g1 o1 _ => ?_
  have hx1 : H1 l = some (.lst xs) := g1.at (fun z => hn (a.ok0.sub _ z)) hx (fun ps z => by cases z)
  have o2 : Ok C (k + (c2 + c3)) (((l, ds) :: A).map (·.1) ++ M0) H1 := ⟨fun b hb => by
    rcases List.mem_cons.mp hb with e | e
    · subst e; exact ⟨xs, hx1⟩
    · exact o1.dom b e, o1.tabs, a.ok.sub, o1.str⟩
  have a1 := a.gos g1 o2
  cases b with
  | true => exact hasS_le h1 (by omega) M0 H0 N k σ H1 D a1 q r
  | false => exact hasS_le h2 (by omega) M0 H0 N k σ H1 D a1 q r
theorem hasS_extendN (hg : Γ[n]? = some (some (tyV (.ref l)))) (h : HasE C c te Γ (tyP C P)) (hP : ∀ d, P d → ∃ es, d = .list es ∧ ds.length + es.length ≤ 100000 ∧ B Γ ((l, ds ++ es) :: A)) :
    HasS C c (tDrop (tBM C.K "list" rExtend (tVar n) (tCons te tNil))) Γ ((l, ds) :: A) B R := fun M0 H0 N k σ H D a q r => by
  obtain ⟨v, e1, e2⟩ := a.sat.2 n _ hg
  have e2 : v = .ref l := e2
  subst e2
  obtain ⟨_, hn, xs, hx, hr⟩ := a.own (l, ds) (List.mem_cons_self ..)
  refine ⟨.ref l, e1, .inl ⟨rfl, _, sqL_of hx⟩, h _ k σ H _ a.ok a.sat fun y H1 g1 o1 ⟨d, hd, p⟩ => ?_⟩
  obtain ⟨es, rfl, hz, hb⟩ := hP d hd
  have a1 := a.gos g1 o1
  have hx1 : H1 l = some (.lst xs) := g1.at (fun z => hn (a.ok0.sub _ z)) hx (fun ps z => by cases z)
  have hr1 := hr.ext (g1.k a.ok)
  obtain ⟨b2, zs, eb, hb2, rz⟩ := d_lst p
  refine ⟨l, b2, xs, zs, rfl, by rw [eb], hx1, (hide_some hb2).2, ?_, q _ _ _ _ hb (own_put a1 (List.mem_cons_self ..) hx1 (dA_app hr1 rz) rfl fun p hp => ?_)⟩
  · rw [dA_len hr, dA_len rz]; exact small_line hz
  · rcases List.mem_cons.mp hp with e | e
    · exact .inl e
    · refine .inr ⟨fun z => ?_, List.mem_cons_of_mem _ e⟩
      have nd := List.nodup_cons.mp a.nd
      exact nd.1 (by rw [← z]; exact List.mem_map.mpr ⟨p, e, rfl⟩)
theorem has_maxN {ns : List Int} (h : HasE C c te Γ (tyD C (.list (ns.map .int)))) (hn : ns ≠ []) : HasE C c (tCB (rMax C.K) (tCons te tNil)) Γ (tyI C fun _ => True) := fun M k σ H Q ok st q =>
  h M k σ H _ ok st fun v H1 g1 o1 p => by
    obtain ⟨a, xs, e, hx, r⟩ := d_lst p
    have := ints_of r
    subst this
    exact ⟨a, ns, by rw [e], sqL_of (hide_some hx).2, List.length_pos_iff.mpr hn, fun y hy hh => q _ H1 g1 o1 ⟨_, ⟨y, rfl, trivial⟩, .int y⟩⟩
theorem hast_ltN {f : Int → Int → Bool} (ha : HasE C c1 ta Γ (tyI C S)) (hb : HasE C c2 tb Γ (tyI C T)) : HasT C (c1 + c2) (tTest (tOp (rI0 fun i j => .bl (f i j)) ta tb)) Γ (fun _ => True) := fun M k σ H Q ok st q =>
  has2 ha hb ok st fun x y H' g o1 ⟨_, ⟨i, e1, _⟩, p1⟩ ⟨_, ⟨j, e2, _⟩, p2⟩ => by
    subst e1 e2
    exact ⟨i, j, d_int p1, d_int p2, _, rfl, q _ H' g o1 trivial⟩
end
theorem val_at {s t : Rat} : ∀ {c : List Cor} {i : Nat} {a : Cor}, Sorted c → c[i]? = some a → a.1 ≤ t → (∀ b, c[i + 1]? = some b → t < b.1) → val c s t = a.2 + first (c.drop i) s * (t - a.1)
  | [], _, _, _, h, _, _ => by simp at h
  | [x], 0, a, _, h, _, _ => by
    simp at h; subst h; rfl
  | [x], i + 1, a, _, h, _, _ => by simp at h
  | x :: y :: r, 0, a, _, h, _, h2 => by
    simp at h; subst h
    have := h2 y rfl
    simp only [val, if_pos this, List.drop_zero, first]
  | x :: y :: r, i + 1, a, hs, h, h1, h2 => by
    have ha : (y :: r)[i]? = some a := by simpa using h
    have hy : y.1 ≤ a.1 := sorted_nn hs.2 a (List.mem_of_getElem? ha)
    have hn : ¬ t < y.1 := by grind
    have := val_at (s := s) hs.2 ha h1 (fun b hb => h2 b (by simpa using hb))
    simp only [val, if_neg hn, List.drop_succ_cons]
    exact this
/-- between a corner and the next -/
def Mid (x y : Rat) (ts : List Rat) : Prop := (∃ p, ts = [p] ∧ x < p ∧ p < y) ∨ ∃ p q, ts = [p, q] ∧ x < p ∧ p < q ∧ q < y
theorem mid_onL {k : Rat} {a : Cor} {y : Rat} {ts : List Rat} {f : Rat → Rat} (h : Mid a.1 y ts) (hf : ∀ t, a.1 < t → t < y → f t = a.2 + k * (t - a.1)) : OnL k a (ts.map fun t => (t, f t)) ∧ ∀ p ∈ ts.map fun t => (t, f t), p.1 < y := by
  rcases h with ⟨p, rfl, h1, h2⟩ | ⟨p, q, rfl, h1, h2, h3⟩
  · exact ⟨⟨h1, hf p h1 h2, trivial⟩, by simpa using h2⟩
  · have e1 := hf p h1 (by grind)
    have e2 := hf q (by grind) h3
    refine ⟨⟨h1, e1, h2, ?_, trivial⟩, ?_⟩
    · show f q = f p + k * (q - p)
      rw [e1, e2]; grind
    · intro x hx
      simp only [List.map_cons, List.map_nil, List.mem_cons, List.not_mem_nil, or_false] at hx
      rcases hx with rfl | rfl <;> grind

theorem cut_next {ds : List PyData} {n : Nat} : cutD ds (some ((n : Int) + 1)) (some ((n : Int) + 2)) = (ds.drop (n + 1)).take 1 := by
  unfold cutD
  have h1 : HT.sIx ds.length 0 (some ((n : Int) + 1)) = min (n + 1) ds.length := HT.sIx_nat _ _ (n + 1)
  have h2 : HT.sIx ds.length ds.length (some ((n : Int) + 2)) = min (n + 2) ds.length := HT.sIx_nat _ _ (n + 2)
  rw [h1, h2]
  rcases Nat.lt_or_ge (n + 1) ds.length with h | h
  · rw [Nat.min_eq_left (by omega), Nat.min_eq_left (by omega)]
    congr 1; omega
  · rw [Nat.min_eq_right h, List.drop_eq_nil_of_le (Nat.le_refl _), List.drop_eq_nil_of_le h]; simp
/-- the next corner's moment, or a later one -/
def nextM (c : List Cor) (i : Nat) (a : Cor) : Rat := match c[i + 1]? with
  | some b => b.1
  | none => a.1 + 2
theorem sorted_get : ∀ {c : List Cor} {i : Nat} {a b : Cor}, Sorted c → c[i]? = some a → c[i + 1]? = some b → a.1 < b.1
  | [], _, _, _, _, h, _ => by simp at h
  | [_], i, _, _, _, _, h2 => by simp at h2
  | x :: y :: r, 0, a, b, hs, h, h2 => by
    simp at h h2; subst h h2; exact hs.1
  | x :: y :: r, i + 1, a, b, hs, h, h2 => sorted_get (c := y :: r) (i := i) hs.2 (by simpa using h) (by simpa using h2)
theorem next_gt {c : List Cor} {i : Nat} {a : Cor} (hs : Sorted c) (h : c[i]? = some a) : a.1 < nextM c i a := by
  unfold nextM
  split
  · exact sorted_get hs h (by assumption)
  · grind
theorem next_cor {c : List Cor} {i : Nat} {a b : Cor} (h : c[i + 1]? = some b) : nextM c i a = b.1 := by unfold nextM; rw [h]
theorem at_next {c : List Cor} {i : Nat} {a : Cor} : atI ((((c.drop (i + 1)).take 1).map fun k => encF k.1) ++ [encF (a.1 + 2)]) 0 = some (encF (nextM c i a)) := by
  refine atI_nat (j := 0) ?_
  unfold nextM
  cases h : c[i + 1]? with
  | none =>
    have : c.length ≤ i + 1 := List.getElem?_eq_none_iff.mp h
    rw [List.drop_eq_nil_of_le this]; rfl
  | some b => rw [drop_ix h]; rfl
theorem third_enc : encF (1 / 3) = .tuple [.int 1, .int 3] := by
  have e : (1 / 3 : Rat) = ((1 : Int) : Rat) / ((3 : Int) : Rat) := by rfl
  obtain ⟨h1, h2⟩ := low_num (n := 1) (m := 3) (by decide)
  unfold encF
  rw [e, h1, h2]; rfl
theorem thirds_enc : encF (2 / 3) = .tuple [.int 2, .int 3] := by
  have e : (2 / 3 : Rat) = ((2 : Int) : Rat) / ((3 : Int) : Rat) := by rfl
  obtain ⟨h1, h2⟩ := low_num (n := 2) (m := 3) (by decide)
  unfold encF
  rw [e, h1, h2]; rfl
theorem third_sz : Sz 2 (1 / 3 : Rat) := sz_div (n := 1) (m := 3) (a := 2) (b := 2) (by decide) (by decide) (by decide)
theorem thirds_sz : Sz 2 (2 / 3 : Rat) := sz_div (n := 2) (m := 3) (a := 2) (b := 2) (by decide) (by decide) (by decide)
theorem val_sz {s t : Rat} {n T : Nat} (hs : Sz n s) (ht : Sz T t) : ∀ {c : List Cor}, c ≠ [] → (∀ k ∈ c, Sz n k.1 ∧ Sz n k.2) → Sz (6 * n + T + 5) (val c s t) ∧ Sz (4 * n + 2) (slp c s t)
  | [], h, _ => absurd rfl h
  | [a], _, h => by
    obtain ⟨h1, h2⟩ := h a (by simp)
    exact ⟨(h2.add (hs.mul (ht.sub h1))).mono (by omega), hs.mono (by omega)⟩
  | a :: b :: r, _, h => by
    obtain ⟨h1, h2⟩ := h a (by simp)
    obtain ⟨h3, h4⟩ := h b (by simp)
    have hk : Sz (4 * n + 2) (steep a b) := ((h4.sub h2).div (h3.sub h1)).mono (by omega)
    obtain ⟨i1, i2⟩ := val_sz (c := b :: r) hs ht (by simp) fun k hk => h k (List.mem_cons_of_mem _ hk)
    unfold val slp
    split
    · exact ⟨(h2.add (hk.mul (ht.sub h1))).mono (by omega), hk⟩
    · exact ⟨i1, i2⟩
theorem two_enc : encF 2 = .tuple [.int 2, .int 1] := rfl
theorem two_sz : Sz 2 (2 : Rat) := ⟨by decide, by decide⟩
theorem more_step {u : Cur} {i : Nat} {a : Cor} {F : List Cor} {ts : List Rat} (hu : Crv u.1) (hF : RefN u.1 u.2 i F) (ha : u.1[i]? = some a) (ht : ts = [] ∨ Mid a.1 (nextM u.1 i a) ts) : RefN u.1 u.2 (i + 1) (F ++ a :: ts.map fun t => (t, vl u t)) := by
  rcases ht with rfl | ht
  · exact .step i F [] a hF ha trivial (by simp)
  · obtain ⟨h1, h2⟩ := mid_onL (k := first (u.1.drop i) u.2) (f := fun t => vl u t) ht fun t h1 h2 => val_at hu.sorted ha (Rat.le_of_lt h1) fun b hb => by rw [next_cor hb] at h2; exact h2
    exact .step i F _ a hF ha h1 fun b hb p hp => by have := h2 p hp; rw [next_cor hb] at this; exact this
/-- a curve with more corners -/
structure Rf (u : Cur) (L : List Cor) : Prop where
  ref : Ref u.2 u.1 L
  len : L.length ≤ 20
  sz : ∀ k ∈ L, Sz 900 k.1 ∧ Sz 900 k.2
section
variable {P : Program} {w : World} {K : PySem.W.Frag} {mg : Str → Option Value} {base : Heap} {TT : List (Addr × Str)}
def F_l_c_more (ds : List PyData) (R : Res) : Prop := ∃ j u, ds = [strD, encU u] ∧ Dr j u ∧ j ≤ 25 ∧ R = rP (fun d => ∃ L, d = encC L ∧ Rf u L)
abbrev N_l_c_more : List Str := ["_law_stream_here", "_law_curve", "_law_found", "_law_at", "_law_corner", "_law_later", "_law_gap", "_law_parts", "_law_more", "_law_rows", "_law_one", "_law_part", "_law_moment", "_law_worth"]
abbrev P_l_c_more : List Str := ["_law_stream_here", "_law_curve"]
theorem sc_l_c_more : FnScope N_l_c_more P_l_c_more (defScope (top 80)) := ⟨rfl, rfl, rfl, by decide +kernel, rfl, by decide +kernel, by decide +kernel⟩
theorem ok_l_c_more (T : Txt mg) (O : OddOk K) (D_l_draw : Def P w K mg base CX0 1 "_law_draw" P_l_draw (spR TT K 1 F_l_draw 2)) (D_l_less : Def P w K mg base CX0 3 "_law_less" P_l_less (spD TT K F_l_less 2)) (D_l_pick : Def P w K mg base CX0 2 "_law_pick" P_l_pick (spR TT K 1 F_l_pick 2)) (D_l_plus : Def P w K mg base CX0 3 "_law_plus" P_l_plus (spD TT K F_l_plus 2)) (D_l_times : Def P w K mg base CX0 3 "_law_times" P_l_times (spD TT K F_l_times 2)) (D_l_middle : Def P w K mg base CX0 4 "_law_middle" P_l_middle (spD TT K F_l_middle 2)) (D_l_c_worth : Def P w K mg base CX0 5 "_law_c_worth" P_l_c_worth (spD TT K F_l_c_worth 2)) (F : At K mg "_law_c_more" 80) : Def P w K mg base CX0 6 "_law_c_more" P_l_c_more (spR TT K 100 F_l_c_more 2) := by
  have nd := sc_l_c_more.nd
  have hu65 : ∀ {k A}, Room k A → A.units + 65 < cLine := fun r => by have := r.un; omega
  refine def_of0 F sc_l_c_more (fun _ _ _ _ _ _ us hl => match us, hl with | [_, _], _ => rfl) (fun vs H Q E h => len_R h) (fun cdv A outer s H vs Q E hr h => ⟨_, (pss_cons (ps_set (i := 2) nd rfl (Or.inl rfl) (pe_lst pa_nil))
    (pss_cons (ps_for PassesOwn.never rfl (pi_enum rfl T.fr_enumerate (pa_cons (pe_ix ix_seq (pv 1) pe_int (fun _ _ => rfl)) pa_nil)) (pg_tup rfl (pgs_cons (pg_name (i := 3) nd rfl (Or.inl rfl)) (pgs_cons (pg_name (i := 4) nd rfl (Or.inr rfl)) pgs_nil))) (pss_cons (ps_expr (pe_bm PySem.F.plainAttrs_list PySem.F.slot_list_append PySem.F.type_list_append mt_append (pv 2) (pa_cons (pv 4) pa_nil)))
    (pss_one (ps_if (PW.pt (pw_and (pt_cmpR (op_eqD (Room.eq hr)) (pe_callD D_l_draw hr (by decide) rfl pass0 (pa_cons (pv 0) (pa_cons pe_int pa_nil))) pe_int (nomark _)) (pw_and1 (pt_cmpR op_lt (pe_op op_sub (pe_op op_add (pe_callB call_len_seq (by rfl) T.fr_len bb_len (pa_cons (pv 2) pa_nil)) (pe_callB call_len_seq (by rfl) T.fr_len bb_len (pa_cons (pe_ix ix_seq (pv 1) pe_int (fun _ _ => rfl)) pa_nil))) (pv 3)) pe_int (nomark _))))) (pss_cons (ps_set (i := 5) nd rfl (Or.inl rfl) (pe_op op_cat (pe_lc (own := [("_law_one", 10)]) (g := (gName 10)) (tt := tYes) (te := (tOp (rIx K) (tVar 10) (tC (.int 0)))) rfl nd (pi_seq (pe_slice (sl_list.or sl_tup) (pe_ix ix_seq (pv 1) pe_int (fun _ _ => rfl)) (po_some (pe_op op_add (pv 3) pe_int)) (po_some (pe_op op_add (pv 3) pe_int)))) (blkOk_by (N := N_l_c_more) (sc := defScope (top 80)) (own := [("_law_one", 10)]) (by decide +kernel)) (fun _ _ _ _ _ => (pg_name (i := 10) nd rfl (Or.inl rfl))) (fun _ _ _ _ _ => pts_nil) (fun _ _ _ _ _ => (pe_ix ix_seq (pv 10) pe_int (fun _ _ => rfl)))) (pe_lst (pa_cons (pe_callD D_l_plus hr (by decide) rfl pass0 (pa_cons (pe_ix ix_seq (pv 4) pe_int (fun _ _ => rfl)) (pa_cons (pe_tup (pa_cons pe_int (pa_cons pe_int pa_nil))) pa_nil))) pa_nil))))
    (pss_cons (ps_asg (pe_tup (pa_cons (pe_callD D_l_less hr (by decide) rfl pass0 (pa_cons (pe_ix ix_seq (pv 5) pe_int (fun _ _ => rfl)) (pa_cons (pe_ix ix_seq (pv 4) pe_int (fun _ _ => rfl)) pa_nil))) (pa_cons (pe_callD D_l_pick hr (by decide) rfl pass0 (pa_cons (pv 0) (pa_cons (pe_lst (pa_cons (pe_lst (pa_cons (pe_tup (pa_cons pe_int (pa_cons pe_int pa_nil))) pa_nil)) (pa_cons (pe_lst (pa_cons (pe_tup (pa_cons pe_int (pa_cons pe_int pa_nil))) (pa_cons (pe_tup (pa_cons pe_int (pa_cons pe_int pa_nil))) pa_nil))) pa_nil))) pa_nil))) pa_nil))) (pg_tup rfl (pgs_cons (pg_name (i := 6) nd rfl (Or.inr rfl)) (pgs_cons (pg_name (i := 7) nd rfl (Or.inl rfl)) pgs_nil))))
    (pss_cons (ps_setLc (own := [("_law_part", 11)]) (g := (gName 11)) (tt := tYes) (te := (tCall (spD TT K F_l_plus 2) [] (fun _ _ _ => False) (tCons (tOp (rIx K) (tVar 4) (tC (.int 0))) (tCons (tCall (spD TT K F_l_times 2) [] (fun _ _ _ => False) (tCons (tVar 6) (tCons (tVar 11) tNil))) tNil)))) (i := 8) rfl nd rfl rfl (sw_true rfl rfl rfl (by decide +kernel)) (pi_seq (pv 7)) (blkOk_by (N := N_l_c_more) (sc := defScope (top 80)) (own := [("_law_part", 11)]) (by decide +kernel)) (fun _ _ _ _ _ => (pg_name (i := 11) nd rfl (Or.inl rfl))) (fun _ _ _ _ _ => pts_nil) (fun _ _ _ _ _ => (pe_callD D_l_plus hr (by decide) rfl pass0 (pa_cons (pe_ix ix_seq (pv 4) pe_int (fun _ _ => rfl)) (pa_cons (pe_callD D_l_times hr (by decide) rfl pass0 (pa_cons (pv 6) (pa_cons (pv 11) pa_nil))) pa_nil)))))
    (pss_cons (ps_set (i := 8) nd rfl (Or.inl rfl) (pe_ifExp (pt_cmpR op_lt (pe_callB (cr_max rfl) (by rfl) T.fr_max bb_max (pa_cons (pe_lc (own := [("_law_moment", 12)]) (g := (gName 12)) (tt := tYes) (te := (tOp (rIx K) (tVar 12) (tC (.int 1)))) rfl nd (pi_seq (pv 8)) (blkOk_by (N := N_l_c_more) (sc := defScope (top 80)) (own := [("_law_moment", 12)]) (by decide +kernel)) (fun _ _ _ _ _ => (pg_name (i := 12) nd rfl (Or.inl rfl))) (fun _ _ _ _ _ => pts_nil) (fun _ _ _ _ _ => (pe_ix ix_seq (pv 12) pe_int (fun _ _ => rfl)))) pa_nil)) pe_int (nomark _)) (pv 8) (pe_lst (pa_cons (pe_callD D_l_middle hr (by decide) rfl pass0 (pa_cons (pe_ix ix_seq (pv 4) pe_int (fun _ _ => rfl)) (pa_cons (pe_ix ix_seq (pv 5) pe_int (fun _ _ => rfl)) pa_nil))) pa_nil))))
    (pss_cons (ps_setLc (own := [("_law_moment", 12)]) (g := (gName 12)) (tt := tYes) (te := (tTup (tCons (tVar 12) (tCons (tCall (spD TT K F_l_c_worth 2) [] (fun _ _ _ => False) (tCons (tVar 1) (tCons (tVar 12) tNil))) tNil)))) (i := 9) rfl nd rfl rfl (sw_true rfl rfl rfl (by decide +kernel)) (pi_seq (pv 8)) (blkOk_by (N := N_l_c_more) (sc := defScope (top 80)) (own := [("_law_moment", 12)]) (by decide +kernel)) (fun _ _ _ _ _ => (pg_name (i := 12) nd rfl (Or.inl rfl))) (fun _ _ _ _ _ => pts_nil) (fun _ _ _ _ _ => (pe_tup (pa_cons (pv 12) (pa_cons (pe_callD D_l_c_worth hr (by decide) rfl pass0 (pa_cons (pv 1) (pa_cons (pv 12) pa_nil))) pa_nil)))))
    (pss_one (ps_expr (pe_bm PySem.F.plainAttrs_list PySem.F.slot_list_extend PySem.F.type_list_extend mt_extend (pv 2) (pa_cons (pe_ifExp (pt_cmpR op_lt (pe_callB (cr_max rfl) (by rfl) T.fr_max bb_max (pa_cons (pe_lc (own := [("_law_moment", 12), ("_law_worth", 13)]) (g := (gTup K 2 (gCons (gName 12) (gCons (gName 13) gNil)))) (tt := tYes) (te := (tOp (rIx K) (tVar 13) (tC (.int 1)))) rfl nd (pi_seq (pv 9)) (blkOk_by (N := N_l_c_more) (sc := defScope (top 80)) (own := [("_law_moment", 12), ("_law_worth", 13)]) (by decide +kernel)) (fun _ _ _ _ _ => (pg_tup rfl (pgs_cons (pg_name (i := 12) nd rfl (Or.inl rfl)) (pgs_cons (pg_name (i := 13) nd rfl (Or.inl rfl)) pgs_nil)))) (fun _ _ _ _ _ => pts_nil) (fun _ _ _ _ _ => (pe_ix ix_seq (pv 13) pe_int (fun _ _ => rfl)))) pa_nil)) pe_int (nomark _)) (pv 9) (pe_lst pa_nil)) pa_nil))))))))) pss_nil))))
    (pss_one (ps_ret (pv 2))))), read_R ?_ h⟩)
  rintro S ds R ⟨j, u, rfl, hu, hj, rfl⟩ _
  have hc := hu.told.crv
  have hs20 : ∀ k ∈ u.1, Sz 20 k.1 ∧ Sz 20 k.2 := fun k hk => ⟨(hu.cor k hk).1.sz (by decide), (hu.cor k hk).2.sz (by omega)⟩
  have hne : u.1 ≠ [] := by obtain ⟨w0, r, e⟩ := hc.zero; rw [e]; simp
  have szu := gr_szU (s := u.2) (j := j) (by omega) hu.cor hu.slp
  have hl5 := hu.len
  refine hasS_le (c1 := 0 + (0 + u.1.zipIdx.length * 2 + 0)) (hasS_seq_own (f_lst has_nil (by simp)) fun a es e => ?_) (by simp; omega)
  subst e
  let Γ1 : Cxt := [some (tyD ⟨K, TT, S⟩ strD), some (tyD ⟨K, TT, S⟩ (encU u)), some (tyV (.ref a)), none, none, none, none, none, none, none, none, none, none, none]
  refine hasS_seqP (B1 := fun Γ' A' => ∃ F, Wk Γ' Γ1 ∧ A' = [(a, F.map encK)] ∧ RefN u.1 u.2 u.1.length F ∧ F.length ≤ 3 * u.1.length ∧ ∀ k ∈ F, Sz 900 k.1 ∧ Sz 900 k.2)
    (hasS_forP (n := u.1.zipIdx.length) (L := fun l => l = u.1.zipIdx.map fun p => .tuple [.int (p.2 : Nat), encK p.1]) (Inv := fun _ pre Γ' A' => ∃ F, Wk Γ' Γ1 ∧ A' = [(a, F.map encK)] ∧ RefN u.1 u.2 pre.length F ∧ F.length ≤ 3 * pre.length ∧ ∀ k ∈ F, Sz 900 k.1 ∧ Sz 900 k.2) ?_ ?_ ?_ ?_ ?_ ?_) fun Γ' A' ⟨F, hw, eA, hF, hl, hz⟩ => ?_
  · refine i_conv (i_enum (has_ix (has_var rfl) has_int rfl rfl)) ?_
    rw [List.zipIdx_map, List.map_map]; rfl
  · rintro ds rfl; simp
  · rintro ds _
    exact ⟨[], .same (.same (.same (.same (.same (.same (.same (.same (.same (.same (.same (.same (.same (.same .nil))))))))))))), rfl, .zero, by simp, by simp⟩
  · rintro ds pre Γ' A' _ ⟨F, _, rfl, _⟩; rfl
  · rintro ds pre x suf Γ' A' rfl ex ⟨F, hw, rfl, hF, hl, hz⟩
    obtain ⟨p, k, s, e1, rfl, rfl⟩ := mapK ex
    obtain ⟨e2, ha⟩ := zipIdx_mid e1
    obtain ⟨k, i⟩ := k
    simp only at e2 ha
    subst e2
    simp only [List.length_map] at hF hl
    have hi : p.length < u.1.length := (List.getElem?_eq_some_iff.mp ha).1
    have hkm := List.mem_of_getElem? ha
    obtain ⟨gk1, gk2⟩ := hu.cor k hkm
    have y1 := next_gt hc.sorted ha
    have gy : Gr 2012 (nextM u.1 p.length k) := by
      unfold nextM
      split
      · exact (hu.cor _ (List.mem_of_getElem? (by assumption))).1.mono (by decide)
      · refine gk1.add (B' := 12) ⟨12, ?_, by decide⟩
        have h6 : ((6 : Int) : Rat) = 6 := rfl
        have h12 : ((12 : Int) : Rat) = 12 := rfl
        rw [h6, h12]; grind
    have k0 : 0 ≤ k.1 := hc.nn k.1 (List.mem_map.mpr ⟨k, hkm, rfl⟩)
    have aty := at_next (c := u.1) (i := p.length) (a := k)
    have hdone : ∀ (ts : List Rat) Γ'', Wk Γ'' Γ1 → (ts = [] ∨ Mid k.1 (nextM u.1 p.length k) ts) → (∀ t ∈ ts, Sz 100 t) → ∃ F', Wk Γ'' Γ1 ∧ [(a, (F.map encK ++ [encK k]) ++ ts.map fun t => encK (t, vl u t))] = [(a, F'.map encK)] ∧ RefN u.1 u.2 (p.length + 1) F' ∧ F'.length ≤ 3 * (p.length + 1) ∧ ∀ k ∈ F', Sz 900 k.1 ∧ Sz 900 k.2 := fun ts Γ'' hw' ht hs => by
      refine ⟨F ++ k :: ts.map fun t => (t, vl u t), hw', ?_, ?_, ?_, fun k' hk' => ?_⟩
      · simp [List.map_map]
      · exact more_step hc hF ha ht
      · have : ts.length ≤ 2 := by
          rcases ht with rfl | ⟨_, rfl, _⟩ | ⟨_, _, rfl, _⟩ <;> simp
        simp; omega
      · rcases List.mem_append.mp hk' with h | h
        · exact hz k' h
        · rcases List.mem_cons.mp h with h | h
          · rw [h]; exact ⟨(hs20 k hkm).1.mono (by decide), (hs20 k hkm).2.mono (by decide)⟩
          · obtain ⟨t, h1, h2⟩ := List.mem_map.mp h
            rw [← h2]
            exact ⟨(hs t h1).mono (by decide), (val_sz (hu.slp.sz (by omega)) (hs t h1) hne hs20).1.mono (by decide)⟩
    have hl15 : F.length ≤ 15 := by omega
    clear hF hl hz
    generalize hy : nextM u.1 p.length k = y at *
    have zk := (hs20 k hkm).1
    have zy : Sz 20 y := gy.sz (by decide)
    refine ⟨_, _, g_wk hw (g_tup (gs_cons g_name (gs_cons g_name gs_nil)) rfl), hasS_le (c1 := 0 + (_ + (1 + 0))) (hasS_seq (hasS_append rfl (has_var rfl) (by simp; omega) rfl to_here) (hasS_if_peekN (n := 2) rfl
      (hast_andN (hast_drawEq (has_drawC (has_cons (has_var rfl) (has_cons has_int has_nil)) (by decide) (by decide))) (hast_any (hast_test (has_b2 (has_i2 (has_i2 (has_len (has_var rfl) rfl) (has_len (has_ix (has_var rfl) has_int rfl rfl) rfl)) (has_var rfl)) has_int)))) ?_ (hasS_next ?_))) (by decide)⟩
    · refine hasS_le (c1 := _ + 1) (hasS_seq_set (has_cat (has_map ((u.1.drop (p.length + 1)).take 1) encK (fun k => encF k.1) (i_conv (i_seq (has_sl (has_ix (has_var rfl) has_int rfl rfl) (ho_some (has_i2 (has_var rfl) has_int)) (ho_some (has_i2 (has_var rfl) has_int))) rfl) ?_) (by simp; omega) fun x _ => ⟨_, _, g_name, by simp, has_ix (has_var rfl) has_int rfl rfl⟩) (has_lst (has_cons (has_call (has_cons (has_ix (has_var rfl) has_int rfl rfl) (has_cons (has_conv (has_tup (has_cons has_int (has_cons has_int has_nil)) (by simp)) two_enc.symm) has_nil)) rfl ⟨k.1, 2, rfl, fit zk two_sz (by decide), rfl⟩) has_nil) (by simp)) ?_) ?_) (by simp)
      · rw [cut_next, ← List.map_drop, ← List.map_take]
      · simp; omega
      refine hasS_le (c1 := _ + 0) (hasS_seq_asgN (has_tupN (has_consN (P := (· = encF (y - k.1))) (has_any (has_call (has_cons (has_ix (has_var rfl) has_int rfl aty) (has_cons (has_ix (has_var rfl) has_int rfl rfl) has_nil)) rfl ⟨_, _, rfl, fit zy zk (by decide), rfl⟩) rfl) (has_consN (has_pickC (xs := [.list [encF (1 / 2)], .list [encF (1 / 3), encF (2 / 3)]]) (has_cons (has_var rfl) (has_cons (has_lst (has_cons (has_lst (has_cons (has_conv (has_tup (has_cons has_int (has_cons has_int has_nil)) (by simp)) half_enc.symm) has_nil) (by simp)) (has_cons (has_lst (has_cons (has_conv (has_tup (has_cons has_int (has_cons has_int has_nil)) (by simp)) third_enc.symm) (has_cons (has_conv (has_tup (has_cons has_int (has_cons has_int has_nil)) (by simp)) thirds_enc.symm) has_nil)) (by simp)) has_nil)) (by simp)) has_nil)) (by simp) (by simp)) has_nil)) ?_) ?_) (by decide)
      · rintro ds ⟨_, _, rfl, _, _, _, rfl, _, rfl⟩; simp
      · rintro d ⟨ds, rfl, _, _, rfl, rfl, d2, _, rfl, hd2, rfl⟩
        obtain ⟨ps, rfl, hps⟩ : ∃ ps : List Rat, d2 = .list (ps.map encF) ∧ (ps = [1 / 2] ∨ ps = [1 / 3, 2 / 3]) := by
          simp only [List.mem_cons, List.not_mem_nil, or_false] at hd2
          rcases hd2 with rfl | rfl
          · exact ⟨[1 / 2], rfl, .inl rfl⟩
          · exact ⟨[1 / 3, 2 / 3], rfl, .inr rfl⟩
        refine ⟨_, _, g_tup (gs_cons g_name (gs_cons g_name gs_nil)) rfl, ?_⟩
        have sg : Sz 41 (y - k.1) := zy.sub zk
        have hsp : ∀ q ∈ ps, Sz 2 q := fun q hq => by
          rcases hps with rfl | rfl
          · obtain rfl : q = 1 / 2 := by simpa using hq
            exact half_sz
          · simp only [List.mem_cons, List.not_mem_nil, or_false] at hq
            rcases hq with rfl | rfl
            · exact third_sz
            · exact thirds_sz
        have hml : ps.length ≤ 2 ∧ ps ≠ [] := by rcases hps with rfl | rfl <;> simp
        have mid1 : Mid k.1 y (ps.map fun q => k.1 + (y - k.1) * q) := by
          rcases hps with rfl | rfl
          · exact .inl ⟨_, rfl, by grind, by grind⟩
          · exact .inr ⟨_, _, rfl, by grind, by grind, by grind⟩
        have mid2 : Mid k.1 y [(k.1 + y) * (1 / 2)] := .inl ⟨_, rfl, by grind, by grind⟩
        have msz : ∀ t ∈ (ps.map fun q => k.1 + (y - k.1) * q), Sz 100 t := fun t ht => by
          obtain ⟨q, hq, e⟩ := List.mem_map.mp ht
          rw [← e]
          exact (zk.add (sg.mul (hsp q hq))).mono (by decide)
        have msz2 : Sz 100 ((k.1 + y) * (1 / 2)) := ((zk.add zy).mul half_sz).mono (by decide)
        have enc1 : (ps.map fun q => encF (k.1 + (y - k.1) * q)) = (ps.map fun q => k.1 + (y - k.1) * q).map encF := by rw [List.map_map]; rfl
        have maxT : ∀ {Γ : Cxt} {α : Type} {n m : Nat} {g : TG} {te : TE} {vs : List Nat} {f : Int → Int → Bool} {j : Int} (xs : List α) (enc : α → PyData) (o : α → Int), Γ[n]? = some (some (tyD ⟨K, TT, S⟩ (.list (xs.map enc)))) → xs.length ≤ 1000 → xs ≠ [] → (∀ x ∈ xs, ∃ ws Δ, HasG ⟨K, TT, S⟩ g ws (wipeC Γ vs) (enc x) Δ ∧ (∀ i ∈ ws, i ∈ vs) ∧ HasE ⟨K, TT, S⟩ 0 te Δ (tyD ⟨K, TT, S⟩ (.int (o x)))) →
            HasT ⟨K, TT, S⟩ (0 + xs.length * (0 + 0) + 0) (tTest (tOp (rI0 fun i j => .bl (f i j)) (tCB (rMax K) (tCons (tLc (iSeq K (tVar n)) g tYes te vs) tNil)) (tC (.int j)))) Γ (fun _ => True) := fun {Γ α n m g te vs f j} xs enc o hg hl hn hx =>
          hast_ltN (has_maxN (ns := xs.map o) (has_conv (has_map xs enc (fun x => .int (o x)) (i_seq (has_var hg) rfl) (by omega) hx) (by rw [List.map_map]; rfl)) (by simpa using hn)) (has_I has_int)
        refine hasS_le (c1 := _ + (0 + 0)) (hasS_seq_set (has_map ps encF (fun q => encF (k.1 + (y - k.1) * q)) (i_seq (has_var rfl) rfl) (by omega) fun q hq => ⟨_, _, g_name, by simp, has_call (has_cons (has_ix (has_var rfl) has_int rfl rfl) (has_cons (has_call (has_cons (has_var rfl) (has_cons (has_var rfl) has_nil)) rfl ⟨_, _, rfl, fit sg (hsp q hq) (by decide), rfl⟩) has_nil)) rfl ⟨_, _, rfl, fit zk (sg.mul (hsp q hq)) (by decide), rfl⟩⟩)
          (hasS_seq_set (τ2 := tyP ⟨K, TT, S⟩ fun d => ∃ ts : List Rat, d = .list (ts.map encF) ∧ Mid k.1 y ts ∧ ∀ t ∈ ts, Sz 100 t) (has_le (has_ifN (maxT (m := 0) ps (fun q => encF (k.1 + (y - k.1) * q)) (fun q => ((k.1 + (y - k.1) * q).den : Nat)) rfl (by omega) hml.2 fun q hq => ⟨_, _, g_name, by simp, has_ix (has_var rfl) has_int rfl rfl⟩)
            (fun _ => has_any (has_var rfl) ⟨_, congrArg PyData.list enc1, mid1, msz⟩) fun _ => has_any (has_lst (has_cons (has_call (has_cons (has_ix (has_var rfl) has_int rfl rfl) (has_cons (has_ix (has_var rfl) has_int rfl aty) has_nil)) rfl ⟨_, _, rfl, zk.mono (by decide), zy.mono (by decide), rfl⟩) has_nil) (by simp)) ⟨[_], rfl, mid2, by simpa using msz2⟩) (by simp)) (hasS_open (n := 8) rfl fun d ⟨ts, e, hM, hS⟩ => ?_))) (by simp)
        subst e
        have htl : ts.length ≤ 2 ∧ ts ≠ [] := by rcases hM with ⟨_, rfl, _⟩ | ⟨_, _, rfl, _⟩ <;> simp
        have tpos : ∀ t ∈ ts, 0 ≤ t := fun t ht => by
          rcases hM with ⟨q, rfl, h1, _⟩ | ⟨q, r, rfl, h1, h2, _⟩
          · obtain rfl : t = q := by simpa using ht
            grind
          · simp only [List.mem_cons, List.not_mem_nil, or_false] at ht
            rcases ht with rfl | rfl <;> grind
        refine hasS_le (c1 := _ + 0) (hasS_seq_set (has_map ts encF (fun t => encK (t, vl u t)) (i_seq (has_var rfl) rfl) (by omega) fun t ht => ⟨_, _, g_name, by simp, has_tup (has_cons (has_var rfl) (has_cons (has_call (has_cons (has_var rfl) (has_cons (has_var rfl) has_nil)) rfl ⟨u, t, rfl, hc, szu, (hS t ht).mono (by decide), tpos t ht, by omega, rfl⟩) has_nil)) (by simp)⟩)
          (hasS_le (hasS_extendN (n := 2) rfl (P := fun d => ∃ ts' : List Rat, d = .list (ts'.map fun t => encK (t, vl u t)) ∧ (ts' = [] ∨ ts' = ts)) (has_ifN (maxT (m := 0) ts (fun t => encK (t, vl u t)) (fun t => ((vl u t).den : Nat)) rfl (by omega) htl.2 fun t ht => ⟨_, _, g_tup (gs_cons g_name (gs_cons g_name gs_nil)) rfl, by simp, has_ix (has_var rfl) has_int rfl rfl⟩) (fun _ => has_any (has_var rfl) ⟨ts, rfl, .inr rfl⟩) fun _ => has_any (has_lst has_nil (by simp)) ⟨[], rfl, .inl rfl⟩) fun d ⟨ts', e, h⟩ => ⟨_, e, ?_, by
            simp only [List.length_append, List.length_map, List.length_singleton]
            exact hdone ts' _ (.same (.same (.same (.drop (.drop (.drop (.drop (.drop (.drop (.drop (.drop (.drop (.drop (.drop .nil)))))))))))))) (by rcases h with rfl | rfl; (· exact .inl rfl); (· exact .inr hM)) (by rcases h with rfl | rfl; (· intro t ht; cases ht); (· exact hS))⟩) (by simp))) (by simp)
        · have : ts'.length ≤ 2 := by rcases h with rfl | rfl; (· simp); (· exact htl.1)
          simp; omega
    · simp only [List.length_append, List.length_map, List.length_singleton]
      have e0 : ∀ X : List PyData, X = X ++ ([] : List Rat).map (fun t => encK (t, vl u t)) := by simp
      show ∃ F', Wk _ Γ1 ∧ [(a, F.map encK ++ [encK k])] = _ ∧ _
      rw [e0 (F.map encK ++ [encK k])]
      exact hdone [] _ (.same (.same (.same (.drop (.drop (.drop (.drop (.drop (.drop (.drop (.drop (.drop (.drop (.drop .nil)))))))))))))) (.inl rfl) (fun t ht => by cases ht)
  · rintro ds Γ' A' rfl ⟨F, hw, rfl, hF, hl, hz⟩
    exact ⟨F, hw, rfl, by simpa using hF, by simpa using hl, hz⟩
  · subst eA
    exact hasS_wk hw (hasS_drop (n := 2) rfl (hasS_retP (has_any (has_var rfl) ⟨F, rfl, refN_ref hF hne, by omega, hz⟩)))
end
end Q6
end
section
set_option maxHeartbeats 4000000
set_option exponentiation.threshold 2000000
/-! Curves as they are passed; the stream; odd things. -/
namespace Q6
open PySem PySem.Spec PyProof.Rows L2 LamX RZ Qk
/-- the curve u as it may be passed -/
def passU (u : Cur) : PyData → Prop := fun d => ∃ L, Given d (L, u.2) ∧ tld (L, u.2) = u ∧ L.length ≤ 20
theorem pass_of {u : Cur} {L : List Cor} {d : PyData} (hr : Rf u L) (ht : Told u) (h : rawU d (L, u.2)) : passU u d := by
  obtain ⟨h1, h2⟩ := ref_told hr.ref ht
  exact ⟨L, ⟨h, h2, by have := hr.len; show L.length ≤ _; omega⟩, h1, hr.len⟩
/-- the odd things -/
def odds : List PyData := [.none, .int 5, .int (-1), .bool true, .str "ab", .str "", .dict [], .tuple [], .list [], .list [.list []], .tuple [.int 1, .int 0], .tuple [.bool true, .int 1], .list [.tuple [.list [], .tuple [.int 0, .int 1]]], fnD]
/-- a new stream -/
def rS (ns : List Int) : Res := fun C M H v H' => ∃ s l : Addr, v = .ref s ∧ s ≠ l ∧ NewAt H s ∧ NewAt H l ∧ s ∉ M ∧ l ∉ M ∧ H' s = some (.lst [.ref l, .int 0, .int 0, .int 17]) ∧ H' l = some (.lst (ns.map V.int))
section
variable {P : Program} {w : World} {K : PySem.W.Frag} {mg : Str → Option Value} {base : Heap} {TT : List (Addr × Str)}
def F_l_c_passed (ds : List PyData) (R : Res) : Prop := ∃ j u, ds = [strD, encU u] ∧ Dr j u ∧ j ≤ 25 ∧ R = rP (passU u)
abbrev N_l_c_passed : List Str := ["_law_stream_here", "_law_curve"]
abbrev P_l_c_passed : List Str := ["_law_stream_here", "_law_curve"]
theorem sc_l_c_passed : FnScope N_l_c_passed P_l_c_passed (defScope (top 82)) := ⟨rfl, rfl, rfl, by decide +kernel, rfl, by decide +kernel, by decide +kernel⟩
theorem ok_l_c_passed (T : Txt mg) (O : OddOk K) (D_l_c_raw : Def P w K mg base CX0 10 "_law_c_raw" P_l_c_raw (spR TT K 10000 F_l_c_raw 2)) (D_l_c_more : Def P w K mg base CX0 6 "_law_c_more" P_l_c_more (spR TT K 100 F_l_c_more 2)) (F : At K mg "_law_c_passed" 82) : Def P w K mg base CX0 11 "_law_c_passed" P_l_c_passed (spR TT K 10100 F_l_c_passed 2) := by
  have nd := sc_l_c_passed.nd
  have hu65 : ∀ {k A}, Room k A → A.units + 65 < cLine := fun r => by have := r.un; omega
  refine def_of0 F sc_l_c_passed (fun _ _ _ _ _ _ us hl => match us, hl with | [_, _], _ => rfl) (fun vs H Q E h => len_R h) (fun cdv A outer s H vs Q E hr h => ⟨_, (pss_one (ps_ret (pe_callD D_l_c_raw hr (by decide) rfl pass0 (pa_cons (pv 0) (pa_cons (pe_tup (pa_cons (pe_callD D_l_c_more hr (by decide) rfl pass0 (pa_cons (pv 0) (pa_cons (pv 1) pa_nil))) (pa_cons (pe_ix ix_seq (pv 1) pe_int (fun _ _ => rfl)) pa_nil))) pa_nil))))), read_R ?_ h⟩)
  rintro S ds R ⟨j, u, rfl, hu, hj, rfl⟩ _
  refine hasS_le (c1 := _ + 10000) (hasS_retP (has_callR (has_consN (P := (· = strD)) (has_any (has_var rfl) rfl) (has_consN (has_tupN (has_consN (P := fun d => ∃ L, d = encC L ∧ Rf u L) (has_callR (c2 := 100) (has_cons (has_var rfl) (has_cons (has_var rfl) has_nil)) fun l e => ⟨by rw [e]; rfl, _, ⟨j, u, e, hu, hj, rfl⟩, fun _ _ _ _ h => h⟩) (has_consN (P := (· = encF u.2)) (has_any (has_ix (has_var rfl) has_int rfl rfl) rfl) has_nil)) ?_) has_nil)) ?_)) (by decide)
  · rintro ds ⟨_, _, rfl, _, _, _, rfl, _, rfl⟩; simp
  · rintro l ⟨_, _, rfl, rfl, _, _, rfl, ⟨ds, rfl, _, _, rfl, ⟨L, rfl, hL⟩, _, _, rfl, rfl, rfl⟩, rfl⟩
    exact ⟨rfl, _, ⟨(L, u.2), rfl, hL.sz, (hu.slp.sz (by omega)).mono (by decide), hL.len, rfl⟩, fun M H v H' ⟨d, h1, h2⟩ => ⟨d, pass_of hL hu.told h1, h2⟩⟩
def F_l_stream (ds : List PyData) (R : Res) : Prop := ∃ ns : List Int, ds = [.list (ns.map .int)] ∧ R = rS ns
abbrev N_l_stream : List Str := ["_law_script"]
abbrev P_l_stream : List Str := ["_law_script"]
theorem sc_l_stream : FnScope N_l_stream P_l_stream (defScope (top 52)) := ⟨rfl, rfl, rfl, by decide +kernel, rfl, by decide +kernel, by decide +kernel⟩
theorem ok_l_stream (T : Txt mg) (O : OddOk K) (F : At K mg "_law_stream" 52) : Def P w K mg base CX0 1 "_law_stream" P_l_stream (spR TT K 0 F_l_stream 1) := by
  have nd := sc_l_stream.nd
  have hu65 : ∀ {k A}, Room k A → A.units + 65 < cLine := fun r => by have := r.un; omega
  refine def_of0 F sc_l_stream (fun _ _ _ _ _ _ us hl => match us, hl with | [_], _ => rfl) (fun vs H Q E h => len_R h) (fun cdv A outer s H vs Q E hr h => ⟨_, (pss_one (ps_ret (pe_lst (pa_cons (pe_callTy call_list_of (by rfl) T.fr_list bb_list (pa_cons (pv 0) pa_nil)) (pa_cons pe_int (pa_cons pe_int (pa_cons pe_int pa_nil))))))), read_S ?_ h⟩)
  intro S M k ds R Q ok hd ⟨ns, e1, eR⟩ q
  subst e1 eR
  cases hd with
  | cons h1 hd =>
  cases hd
  obtain ⟨p, xs, rfl, hp, r⟩ := d_lst h1
  have := ints_of r
  subst this
  refine ⟨_, rfl, p, _, rfl, .inl (sqL_of (hide_some hp).2), fun l hl => ?_⟩
  refine ⟨small_line (by simp), fun s hs => ?_⟩
  have hsl : s ≠ l := fun z => by rw [z, upd_same] at hs; cases hs
  have hs0 : H s = none := by rwa [upd_ne hsl] at hs
  have o1 := ok.new (o := .lst (ns.map V.int)) hl
  refine q _ _ ((go.new hl).trans (go.new hs)) (o1.new hs) ⟨s, l, rfl, hsl, .of hs0, .of hl, ok.out hs0, ok.out hl, upd_same, ?_⟩
  rw [upd_ne (Ne.symm hsl)]; exact upd_same
def F_l_odd (ds : List PyData) (R : Res) : Prop := ds = [strD] ∧ R = rP (· ∈ odds)
theorem has_emp {C : Cf} {Γ : Cxt} : HasE C 0 tDNewK Γ (tyD C (.dict [])) := fun M k σ H Q ok st q => fun p hp => q _ _ (go.new hp) (ok.new hp) (.emp (dom_new ok hp))
theorem has_fn {C : Cf} {Γ : Cxt} : HasE C 0 (tC (.ref (He.ga C.K "_law_odd"))) Γ (tyD C fnD) := fun M k σ H Q ok st q => q _ H (go.refl H) ok .fn
abbrev N_l_odd : List Str := ["_law_stream_here"]
abbrev P_l_odd : List Str := ["_law_stream_here"]
theorem sc_l_odd : FnScope N_l_odd P_l_odd (defScope (top 85)) := ⟨rfl, rfl, rfl, by decide +kernel, rfl, by decide +kernel, by decide +kernel⟩
theorem ok_l_odd (T : Txt mg) (O : OddOk K) (D_l_pick : Def P w K mg base CX0 2 "_law_pick" P_l_pick (spR TT K 1 F_l_pick 2)) (F : At K mg "_law_odd" 85) : Def P w K mg base CX0 3 "_law_odd" P_l_odd (spR TT K 1 F_l_odd 1) := by
  have nd := sc_l_odd.nd
  have hu65 : ∀ {k A}, Room k A → A.units + 65 < cLine := fun r => by have := r.un; omega
  refine def_of0 F sc_l_odd (fun _ _ _ _ _ _ us hl => match us, hl with | [_], _ => rfl) (fun vs H Q E h => len_R h) (fun cdv A outer s H vs Q E hr h => ⟨_, (pss_one (ps_ret (pe_callD D_l_pick hr (by decide) rfl pass0 (pa_cons (pv 0) (pa_cons (pe_lst (pa_cons pe_non (pa_cons pe_int (pa_cons (pe_un un_neg pe_int) (pa_cons pe_bl (pa_cons pe_str (pa_cons pe_str (pa_cons pe_dnewK (pa_cons (pe_tup pa_nil) (pa_cons (pe_lst pa_nil) (pa_cons (pe_lst (pa_cons (pe_lst pa_nil) pa_nil)) (pa_cons (pe_tup (pa_cons pe_int (pa_cons pe_int pa_nil))) (pa_cons (pe_tup (pa_cons pe_bl (pa_cons pe_int pa_nil))) (pa_cons (pe_lst (pa_cons (pe_tup (pa_cons (pe_lst pa_nil) (pa_cons (pe_tup (pa_cons pe_int (pa_cons pe_int pa_nil))) pa_nil))) pa_nil)) (pa_cons (pe_glob (v := .ref (He.ga K "_law_odd")) rfl F.gm rfl) pa_nil))))))))))))))) pa_nil))))), read_R ?_ h⟩)
  rintro S ds R ⟨rfl, rfl⟩ _
  refine hasS_le (c1 := 0 + (0 + (0 + 0)) + 1) (hasS_retP (has_pickC (xs := odds) (has_cons (has_var rfl) (has_cons (has_lst (has_cons has_non (has_cons has_int (has_cons (has_neg has_int) (has_cons has_bl (has_cons has_str (has_cons has_str (has_cons has_emp (has_cons (has_tup has_nil (by simp)) (has_cons (has_lst has_nil (by simp)) (has_cons (has_lst (has_cons (has_lst has_nil (by simp)) has_nil) (by simp)) (has_cons (has_tup (has_cons has_int (has_cons has_int has_nil)) (by simp)) (has_cons (has_tup (has_cons has_bl (has_cons has_int has_nil)) (by simp)) (has_cons (has_lst (has_cons (has_tup (has_cons (has_lst has_nil (by simp)) (has_cons (has_tup (has_cons has_int (has_cons has_int has_nil)) (by simp)) has_nil)) (by simp)) has_nil) (by simp)) (has_cons has_fn has_nil)))))))))))))) (show odds.length ≤ 100000 by decide)) has_nil)) (by decide) (by decide))) (by decide)
end
end Q6
end
section
set_option maxHeartbeats 4000000
set_option exponentiation.threshold 2000000
/-! A curve agrees with what is asked at each point. -/
namespace Q6
open PySem PySem.Spec PyProof.Rows L2 LamX RZ Qk
/-- x(e), x a local name that holds a def -/
def tFn (i : Nat) (f : Addr) (sp : Sp) (E : XK) (t : TA) : TE := fun σ H Q => σ[i]? = some (some (.ref f)) ∧ t σ H fun vs H1 => sp (vs ++ []) H1 Q E
theorem pe_fn {X : Cx} {CX : CXT} {k k' i : Nat} {nm x : Str} {ps : List Str} {sp : Sp} {E : XK} {e : Expr} {es : List Expr} {t : TA} {p pos : Pos} (D : Def X.prog X.w X.K X.mg X.base CX k nm ps sp) (hr : Room k' X.A) (hk : k ≤ k') (hx : Passes CX X E) (hN : X.N[i]? = some x) (hv : Vis X.env.scope x) (ha : PA X (e :: es) t)
    (hd : (x == ("__debug__" : Str)) = false) (hcd : (x == ("__classdict__" : Str)) = false) (he : starEach (e :: es) X.env = (false, eval e X.env) :: starEach es X.env := by rfl) (hpl : (backTo pos (starEach es X.env)).any (·.1) = false := by rfl) :
    PE X (.Call (.Name x p) (e :: es) [] pos) (tFn i (He.ga X.K nm) sp E t) := by
  obtain ⟨fd, F, b, _⟩ := D.ex
  exact ItX.pe_callV (F.raw b .nil) (hr.mono hk) D.kp hx hN hv ha hd hcd he hpl
/-- what is asked of a curve told and the curves of which it is made -/
structure AgOk (L : List Rat → Prop) (φ : List Rat → Rat) (f : Cur) (us : List Cur) : Prop where
  told : Told f
  crv : ∀ u ∈ us, Crv u.1
  sz : ∀ u ∈ f :: us, SzU u ∧ u.1.length ≤ 50000
  mom : ∀ u ∈ f :: us, ∀ m ∈ mom u.1, Sz 400 m
  cnt : (momsOf (f :: us)).length ≤ 900
  len : us.length ≤ 800
  at_ : ∀ t ∈ ptsOf (once (momsOf (f :: us))), 0 ≤ t ∧ Sz 1000 t ∧ L (us.map fun u => vl u t) ∧ vl f t = φ (us.map fun u => vl u t)
theorem AgOk.ne {L : List Rat → Prop} {φ : List Rat → Rat} {f : Cur} {us : List Cur} (h : AgOk L φ f us) : momsOf (f :: us) ≠ [] := fun z => by
  have : (0 : Rat) ∈ momsOf (f :: us) := List.mem_flatMap.mpr ⟨f, by simp, h.told.crv.zmem⟩
  rw [z] at this; cases this
/-- the reading of the function value -/
def AskRd (C : Cf) (τ : Ty) (tAsk : TA → TE) (L : List Rat → Prop) (φ : List Rat → Rat) : Prop := ∀ (Γ : Cxt) (t : TA) (l : List Rat), Γ[2]? = some (some τ) → HasA C 0 t Γ (fun ds => ds = [.list (l.map encF)]) → L l → HasE C 0 (tAsk t) Γ (tyD C (encF (φ l)))
abbrev agCx (C : Cf) (f : Cur) (us : List Cur) (τ : Ty) (s : Rat) : Cxt := [some (tyD C (encU f)), some (tyD C (.list (us.map encU))), some τ, some (tyD C (encF s)), none, none]
section
variable {P : Program} {w : World} {K : PySem.W.Frag} {mg : Str → Option Value} {base : Heap} {TT : List (Addr × Str)}
abbrev N_l_agrees : List Str := ["_law_found", "_law_curves", "_law_ask", "_law_slope", "_law_moment", "_law_curve"]
abbrev P_l_agrees : List Str := ["_law_found", "_law_curves", "_law_ask", "_law_slope"]
theorem sc_l_agrees : FnScope N_l_agrees P_l_agrees (defScope (top 87)) := ⟨rfl, rfl, rfl, by decide +kernel, rfl, by decide +kernel, by decide +kernel⟩
theorem agrees_walk (T : Txt mg) (O : OddOk K) (D_l_c_points : Def P w K mg base CX0 5 "_law_c_points" P_l_c_points (spD TT K F_l_c_points 1)) (D_l_c_is_told : Def P w K mg base CX0 6 "_law_c_is_told" P_l_c_is_told (spD TT K F_l_c_is_told 1)) (D_l_c_worth : Def P w K mg base CX0 5 "_law_c_worth" P_l_c_worth (spD TT K F_l_c_worth 2))
    {g : Addr} {cdv : Value} {A : Around} {outer : List Env} {s : Shared} {H : Hp} {E : XK} {k : Nat} (hr0 : Room k (A.deeper (envOfC "_law_agrees" (defScope (top 87)) s.heap.objs.size g cdv))) (hk : 6 ≤ k) (tAsk : TA → TE)
    (hact : ∀ {p1 p2 : Pos} {e : Expr} {t : TA}, PA (cxOf CX0 P w K mg base N_l_agrees "_law_agrees" (defScope (top 87)) g cdv A outer s H E).nox [e] t → starEach [e] (envOfC "_law_agrees" (defScope (top 87)) s.heap.objs.size g cdv) = [(false, eval e (envOfC "_law_agrees" (defScope (top 87)) s.heap.objs.size g cdv))] → PE (cxOf CX0 P w K mg base N_l_agrees "_law_agrees" (defScope (top 87)) g cdv A outer s H E).nox (.Call (.Name "_law_ask" p1) [e] [] p2) (tAsk t)) :
    ∃ t, PSs (cxOf CX0 P w K mg base N_l_agrees "_law_agrees" (defScope (top 87)) g cdv A outer s H E).nox (defBody (top 87)) t ∧ ∀ (S : List Addr) (τ : Ty) (L : List Rat → Prop) (φ : List Rat → Rat) (f : Cur) (us : List Cur), AskRd ⟨K, TT, S⟩ τ tAsk L φ → AgOk L φ f us → HasS ⟨K, TT, S⟩ 0 t (agCx ⟨K, TT, S⟩ f us τ f.2) [] nvr (rD (.bool true)) := by
  have nd := sc_l_agrees.nd
  have hr := hr0.mono hk
  have hu65 : ∀ {k A}, Room k A → A.units + 65 < cLine := fun r => by have := r.un; omega
  refine ⟨_, (pss_cons (ps_if (PW.pt (pw_or (pt_not (pt_val (pe_callD D_l_c_is_told hr (by decide) rfl pass0 (pa_cons (pv 0) pa_nil)))) (pw_or1 (pt_cmpR (op_neD (Room.eq hr)) (pe_ix ix_seq (pv 0) pe_int (fun _ _ => rfl)) (pv 3) (nomark _))))) (pss_one (ps_ret pe_bl)) pss_nil)
    (pss_cons (ps_for PassesOwn.never rfl (pi_seq (pe_callD D_l_c_points hr (by decide) rfl pass0 (pa_cons (pe_op op_cat (pe_lst (pa_cons (pv 0) pa_nil)) (pv 1)) pa_nil))) (pg_name (i := 4) nd rfl (Or.inr rfl)) (pss_one (ps_if (pt_cmpR (op_neD (Room.eq hr)) (pe_callD D_l_c_worth hr (by decide) rfl pass0 (pa_cons (pv 0) (pa_cons (pv 4) pa_nil))) (hact (pa_cons (pe_lc (own := [("_law_curve", 5)]) (g := (gName 5)) (tt := tYes) (te := (tCall (spD TT K F_l_c_worth 2) [] (fun _ _ _ => False) (tCons (tVar 5) (tCons (tVar 4) tNil)))) rfl nd (pi_seq (pv 1)) (blkOk_by (N := N_l_agrees) (sc := defScope (top 87)) (own := [("_law_curve", 5)]) (by decide +kernel)) (fun _ _ _ _ _ => (pg_name (i := 5) nd rfl (Or.inl rfl))) (fun _ _ _ _ _ => pts_nil) (fun _ _ _ _ _ => (pe_callD D_l_c_worth hr (by decide) rfl pass0 (pa_cons (pv 5) (pa_cons (pv 4) pa_nil))))) pa_nil) rfl) (nomark _)) (pss_one (ps_ret pe_bl)) pss_nil)))
    (pss_one (ps_ret pe_bl)))), ?_⟩
  intro S τ L φ f us hask ag
  have hall : ∀ u ∈ f :: us, Crv u.1 := fun u hu => by
    rcases List.mem_cons.mp hu with h | h
    · rw [h]; exact ag.told.crv
    · exact ag.crv u h
  have worth : ∀ u ∈ f :: us, ∀ t, 0 ≤ t → Sz 1000 t → F_l_c_worth [encU u, encF t] (encF (vl u t)) := fun u hu t h0 ht => ⟨u, t, rfl, hall u hu, (ag.sz u hu).1, ht, h0, (ag.sz u hu).2, rfl⟩
  refine hasS_0 (hasS_ifret (b := false) (c2 := 0) (c3 := 0 + (ptsOf (once (momsOf (f :: us)))).length * 0 + 0) (hast_conv (hast_or (hast_not (hast_B (has_call (has_cons (has_var rfl) has_nil) rfl ⟨f, rfl, ag.told, (ag.sz f (by simp)).1, (ag.sz f (by simp)).2, rfl⟩))) fun _ => hast_test (has_ne (has_ix (has_var rfl) has_int rfl rfl) (has_var rfl) (eqOk_encF _) (eqOk_encF _))) (by rw [eqv_encF]; simp)) (fun z => by cases z) fun _ => ?_) (by simp)
  refine hasS_seq (Γ1 := agCx ⟨K, TT, S⟩ f us τ f.2) (A1 := []) (hasS_for (ptsOf (once (momsOf (f :: us)))) encF (fun _ => agCx ⟨K, TT, S⟩ f us τ f.2) (fun _ => [])
    (i_seq (has_call (has_cons (has_cat (has_lst (has_cons (has_var rfl) has_nil) (by simp)) (has_var rfl) ?_) has_nil) rfl ⟨f :: us, rfl, ag.mom, ag.cnt, by have := ag.len; simp; omega, ag.ne, rfl⟩) rfl) (Wk.refl _) rfl (fun _ => rfl) (fun pre t suf ex => ⟨_, _, g_name, ?_⟩) fun Γ' w => ⟨w, rfl⟩) (hasS_ret has_bl)
  · have := ag.len; simp; omega
  · obtain ⟨h0, ht, hL, hv⟩ := ag.at_ t (by rw [ex]; simp)
    refine hasS_0 (hasS_if (b := false) (c2 := 0) (c3 := 0) (hast_conv (hast_test (has_ne (has_call (has_cons (has_var rfl) (has_cons (has_var rfl) has_nil)) rfl (worth f (by simp) t h0 ht)) (hask _ _ (us.map fun u => vl u t) rfl (hasA_le (has_cons (has_conv (has_map us encU (fun u => encF (vl u t)) (i_seq (has_var rfl) rfl) (by have := ag.len; omega) fun u hu => ⟨_, _, g_name, by simp, has_call (has_cons (has_var rfl) (has_cons (has_var rfl) has_nil)) rfl (worth u (by simp [hu]) t h0 ht)⟩) (by rw [List.map_map]; rfl)) has_nil) (by simp)) hL) (eqOk_encF _) (eqOk_encF _))) (by rw [eqv_encF, hv]; simp)) (fun z => by cases z) fun _ => hasS_next ⟨?_, rfl⟩) (by simp)
    exact .same (.same (.same (.same (.drop (.same .nil)))))
/-- asked by a def of the module -/
def spAg (TT : List (Addr × Str)) (K : PySem.W.Frag) (nm : Str) (L : List Rat → Prop) (φ : List Rat → Rat) : Sp := fun vs H Q _ => ∃ (S M : List Addr) (k : Nat) (f : Cur) (us : List Cur) (x y z : V), vs = [x, y, .ref (He.ga K nm), z] ∧ Ok ⟨K, TT, S⟩ k M H ∧ Dq ⟨K, TT, S⟩ (hide M H) x (encU f) ∧ Dq ⟨K, TT, S⟩ (hide M H) y (.list (us.map encU)) ∧ Dq ⟨K, TT, S⟩ (hide M H) z (encF f.2) ∧ AgOk L φ f us ∧
  ∀ H', go ⟨K, TT, S⟩ H H' → Ok ⟨K, TT, S⟩ k M H' → Q (.bl true) H'
theorem sat_ag {C : Cf} {H : Hp} {x y v z : V} {f : Cur} {us : List Cur} {τ : Ty} {s : Rat} (h1 : Dq C H x (encU f)) (h2 : Dq C H y (.list (us.map encU))) (h3 : τ.p v H) (h4 : Dq C H z (encF s)) : Sat (agCx C f us τ s) (L2.start N_l_agrees [x, y, v, z]) H := by
  refine ⟨rfl, fun i τ' e => ?_⟩
  match i, e with
  | 0, e => cases e; exact ⟨x, rfl, h1⟩
  | 1, e => cases e; exact ⟨y, rfl, h2⟩
  | 2, e => cases e; exact ⟨v, rfl, h3⟩
  | 3, e => cases e; exact ⟨z, rfl, h4⟩
  | 4, e => cases e
  | 5, e => cases e
  | _ + 6, e => cases e
theorem ok_l_agrees (T : Txt mg) (O : OddOk K) {nm : Str} {ps : List Str} {Fa : List PyData → PyData → Prop} {L : List Rat → Prop} {φ : List Rat → Rat} (D_l_c_points : Def P w K mg base CX0 5 "_law_c_points" P_l_c_points (spD TT K F_l_c_points 1)) (D_l_c_is_told : Def P w K mg base CX0 6 "_law_c_is_told" P_l_c_is_told (spD TT K F_l_c_is_told 1)) (D_l_c_worth : Def P w K mg base CX0 5 "_law_c_worth" P_l_c_worth (spD TT K F_l_c_worth 2))
    (D_ask : Def P w K mg base CX0 4 nm ps (spD TT K Fa 1)) (hFa : ∀ l, L l → Fa [.list (l.map encF)] (encF (φ l))) (F : At K mg "_law_agrees" 87) : Def P w K mg base CX0 7 "_law_agrees" P_l_agrees (spAg TT K nm L φ) := by
  refine def_of0 F sc_l_agrees (fun _ _ _ _ _ _ us hl => match us, hl with | [_, _, _, _], _ => rfl) (fun vs H Q E h => ?_) (fun cdv A outer s H vs Q E hr h => ?_)
  · obtain ⟨S, M, k, f, us, x, y, z, rfl, _⟩ := h; rfl
  · obtain ⟨t, h1, h2⟩ := agrees_walk T O D_l_c_points D_l_c_is_told D_l_c_worth hr (Nat.le_refl _) (tFn 2 (He.ga K nm) (spD TT K Fa 1) E0) fun {p1 p2 e t} ha hst => pe_fn (X := (cxOf CX0 P w K mg base N_l_agrees "_law_agrees" (defScope (top 87)) (He.ga K "_law_agrees") cdv A outer s H E).nox) D_ask hr (by decide) pass0 rfl (.inl rfl) ha rfl rfl hst rfl
    obtain ⟨S, M, k, f, us, x, y, z, rfl, ok, d1, d2, d3, ag, q⟩ := h
    refine ⟨t, h1, h2 S (tyV (.ref (He.ga K nm))) L φ f us (fun Γ t l hg ha hl => ?_) ag M H (hide M H) k _ H _ ⟨ok, ok, go.refl H, ExtN.refl _, fun p hp => (nomatch hp), List.nodup_nil, sat_ag d1 d2 rfl d3⟩ (fun _ _ _ _ z => z.elim) fun v H' g o r => by rw [d_bl r]; exact q H' g o⟩
    intro M k σ H Q ok st q
    obtain ⟨v, e1, e2⟩ := st.2 2 _ hg
    have e2 : v = .ref (He.ga K nm) := e2
    subst e2
    exact ⟨e1, has_call (C := ⟨K, TT, S⟩) ha rfl (hFa l hl) M k σ H Q ok st q⟩
/-- the call -/
theorem has_agrees {C : Cf} {Γ : Cxt} {nm : Str} {L : List Rat → Prop} {φ : List Rat → Rat} {ta tb td : TE} {E : XK} {c1 c2 c3 : Nat} {f : Cur} {us : List Cur} (h1 : HasE C c1 ta Γ (tyD C (encU f))) (h2 : HasE C c2 tb Γ (tyD C (.list (us.map encU)))) (h3 : HasE C c3 td Γ (tyD C (encF f.2))) (ag : AgOk L φ f us) :
    HasE C (c1 + (c2 + c3)) (tCall (spAg C.T C.K nm L φ) [] E (tCons ta (tCons tb (tCons (tC (.ref (He.ga C.K nm))) (tCons td tNil))))) Γ (tyD C (.bool true)) := fun M k σ H Q ok st q =>
  h1 M (k + (c2 + c3)) σ H _ (ok.le (by omega)) st fun x H1 g1 o1 p1 => h2 M (k + c3) σ H1 _ (o1.le (by omega)) (st.ext (g1.k ok)) fun y H2 g2 o2 p2 => h3 M k σ H2 _ o2 ((st.ext (g1.k ok)).ext (g2.k o1)) fun z H3 g3 o3 p3 =>
    ⟨C.S, M, k, f, us, x, y, z, rfl, o3, ((Ty.mono (tyD C _) (g2.k o1) p1).ext (g3.k o2)), Ty.mono (tyD C _) (g3.k o2) p2, p3, ag, fun H' g o => q _ H' (((g1.trans g2).trans g3).trans g) o (.bl true)⟩
end
end Q6
end
section
set_option maxHeartbeats 4000000
set_option exponentiation.threshold 2000000
/-! Two data are the same. -/
namespace Q6
open PySem PySem.Spec PyProof.Rows L2 LamX RZ Qk LiI
theorem go.kept {C : Cf} {H H' : Hp} (h : ∀ b o, H b = some o → H' b = some o) : go C H H' := ⟨hide_ext fun b o n e _ => ⟨n, h b o e⟩, fun t => t.ext h⟩
theorem Ok.kept {C : Cf} {k : Nat} {M : List Addr} {H H' : Hp} (d : Ok C k M H) (h : ∀ b o, H b = some o → H' b = some o) : Ok C k M H' := by
  refine ⟨fun a ha => ?_, d.tabs.ext h, d.sub, ?_⟩
  · obtain ⟨xs, e⟩ := d.dom a ha
    exact ⟨xs, h _ _ e⟩
  · rcases d.str with z | ⟨s, l', ns, sp, ct, mx, h1, h2, h3, h4, h5⟩
    · exact .inl z
    · exact .inr ⟨s, l', ns, sp, ct, mx, h1, h2, h _ _ h3, h _ _ h4, h5⟩
section
variable {C : Cf} {Γ : Cxt} {ta tb te : TE} {c c1 c2 : Nat} {d e : PyData}
theorem has_items (h : HasE C c te Γ (tyD C (.dict []))) : HasE C c (tListItems te) Γ (tyD C (.list [])) := fun M k σ H Q ok st q =>
  h M k σ H _ ok st fun v H1 g1 o1 p => by
    cases p with
    | emp hd =>
      refine ⟨_, [], rfl, (hide_some hd).2, fun H' p ts hk hp _ _ hl hpd => ?_⟩
      cases hpd
      have o2 := o1.kept hk
      exact q _ H' (g1.trans (go.kept hk)) o2 (.lst (by rw [hide_out (o1.out hp)]; exact hl) .nil)
theorem has_eqF1 (ha : HasE C c1 ta Γ (tyD C d)) (hb : HasE C c2 tb Γ (tyD C e)) (h1 : eqOk d = true) (h2 : eqOk e = true) : HasE C (c1 + c2) (tOp (rEqF C.K) ta tb) Γ (tyD C (.bool (PyData.eqv d e))) := has_op ha hb fun M k x y H Q ok p1 p2 q => .inl (op_eqQ h1 h2 M k x y H Q ok p1 p2 q)
theorem has_eqF2 (O : OddOk C.K) (ha : HasE C c1 ta Γ (tyD C fnD)) (hb : HasE C c2 tb Γ (tyD C fnD)) : HasE C (c1 + c2) (tOp (rEqF C.K) ta tb) Γ (tyD C (.bool true)) := has_op ha hb fun M k x y H Q ok p1 p2 q => by
  cases p1
  cases p2
  obtain ⟨o, h1, h2⟩ := O
  exact .inr ⟨_, o, rfl, rfl, h1, h2, q _ H (go.refl H) ok (.bl true)⟩
end
/-- a value without items that == knows -/
def scalD : PyData → Bool
  | .none => true
  | .int _ => true
  | .str s => PyData.strOk s
  | _ => false
/-- data of this depth -/
def Sm : Nat → PyData → Prop
  | 0, d => scalD d = true ∨ (∃ b, d = .bool b) ∨ d = fnD ∨ seqD d = some []
  | n + 1, d => scalD d = true ∨ (∃ b, d = .bool b) ∨ d = fnD ∨ d = .dict [] ∨ ∃ ds, seqD d = some ds ∧ ds.length ≤ 1000 ∧ ∀ e ∈ ds, Sm n e
theorem eqOk_scal {d : PyData} (h : scalD d = true) : eqOk d = true ∧ PyData.eqv d d = true ∧ isStrm d = false := by
  cases d with
  | none => exact ⟨by simp [eqOk, noDict, SeqAt.shaped, PyData.canLay0, PyData.depth], rfl, rfl⟩
  | int i => exact ⟨eqOk_int, by simp [PyData.eqv], rfl⟩
  | str s =>
    have h : PyData.strOk s = true := h
    exact ⟨by simp [eqOk, noDict, SeqAt.shaped, PyData.canLay0, PyData.depth, h], by simp [PyData.eqv], rfl⟩
  | _ => cases h
def F_l_same (n : Nat) (ds : List PyData) (R : Res) : Prop := ∃ x, ds = [x, x] ∧ Sm n x ∧ R = rD (.bool true)
theorem zip_self : ∀ ds : List PyData, ((ds.zip ds).map fun p => PyData.tuple [p.1, p.2]) = ds.map fun e => .tuple [e, e]
  | [] => rfl
  | e :: ds => by rw [List.zip_cons_cons, List.map_cons, List.map_cons, zip_self ds]
section
variable {P : Program} {w : World} {K : PySem.W.Frag} {mg : Str → Option Value} {base : Heap} {TT : List (Addr × Str)}
abbrev N_l_same : List Str := ["_law_found", "_law_due", "_law_mine", "_law_theirs"]
abbrev P_l_same : List Str := ["_law_found", "_law_due"]
theorem sc_l_same : FnScope N_l_same P_l_same (defScope (top 55)) := ⟨rfl, rfl, rfl, by decide +kernel, rfl, by decide +kernel, by decide +kernel⟩
theorem ok_l_same0 (F : At K mg "_law_same" 55) {sS : Sp} {j : Nat} (h : ∀ vs H Q E, ¬ sS vs H Q E) : Def P w K mg base CX0 (j + 1) "_law_same" P_l_same sS := by
  refine def_of0 F sc_l_same (fun _ _ _ _ _ _ us hl => match us, hl with | [_, _], _ => rfl) (fun vs H Q E z => (h vs H Q E z).elim) (fun cdv A outer s H vs Q E hr z => (h vs H Q E z).elim)
theorem ok_l_same (T : Txt mg) (O : OddOk K) {j n : Nat} {sS : Sp} (hj : 1 ≤ j) (D_l_same : Def P w K mg base CX0 j "_law_same" P_l_same sS)
    (hs : n = 0 ∨ ∃ m, n = m + 1 ∧ sS = spR TT K 0 (F_l_same m) 2) (F : At K mg "_law_same" 55) : Def P w K mg base CX0 (j + 1) "_law_same" P_l_same (spR TT K 0 (F_l_same n) 2) := by
  have nd := sc_l_same.nd
  have hu65 : ∀ {k A}, Room k A → A.units + 65 < cLine := fun r => by have := r.un; omega
  refine def_of0 F sc_l_same (fun _ _ _ _ _ _ us hl => match us, hl with | [_, _], _ => rfl) (fun vs H Q E h => len_R h) (fun cdv A outer s H vs Q E hr h => ⟨_, (pss_cons (ps_if (pt_val (pe_callB call_isFT (by rfl) T.fr_isinstance bb_isinstance (pa_cons (pv 1) (pa_cons (pe_tup (pa_cons (pe_bltn (v := .ty "list") rfl (T.fr_list) bb_list rfl) (pa_cons (pe_bltn (v := .ty "tuple") rfl (T.fr_tuple) bb_tuple rfl) pa_nil))) pa_nil)))) (pss_cons (ps_if (PW.pt (pw_or (pt_cmpR (op_neD (Room.eq hr)) (pe_callB call_isF (by rfl) T.fr_isinstance bb_isinstance (pa_cons (pv 0) (pa_cons (pe_bltn (v := .ty "list") rfl (T.fr_list) bb_list rfl) pa_nil))) (pe_callB call_isF (by rfl) T.fr_isinstance bb_isinstance (pa_cons (pv 1) (pa_cons (pe_bltn (v := .ty "list") rfl (T.fr_list) bb_list rfl) pa_nil))) (nomark _)) (pw_or1 (pt_cmpR (op_neD (Room.eq hr)) (pe_callB call_isF (by rfl) T.fr_isinstance bb_isinstance (pa_cons (pv 0) (pa_cons (pe_bltn (v := .ty "tuple") rfl (T.fr_tuple) bb_tuple rfl) pa_nil))) (pe_callB call_isF (by rfl) T.fr_isinstance bb_isinstance (pa_cons (pv 1) (pa_cons (pe_bltn (v := .ty "tuple") rfl (T.fr_tuple) bb_tuple rfl) pa_nil))) (nomark _))))) (pss_one (ps_ret pe_bl)) pss_nil)
    (pss_one (ps_ret (pe_and (pe_cmpR (op_eqD (Room.eq hr)) (pe_callB call_len_seq (by rfl) T.fr_len bb_len (pa_cons (pv 0) pa_nil)) (pe_callB call_len_seq (by rfl) T.fr_len bb_len (pa_cons (pv 1) pa_nil)) (nomark _)) (pe_one (pe_callB (cr_all rfl) (by rfl) T.fr_all bb_all (pa_cons (pe_lc (own := [("_law_mine", 2), ("_law_theirs", 3)]) (g := (gTup K 2 (gCons (gName 2) (gCons (gName 3) gNil)))) (tt := tYes) (te := (tCall (sS) [] (fun _ _ _ => False) (tCons (tVar 2) (tCons (tVar 3) tNil)))) rfl nd (pi_zipA rfl T.fr_zip (pa_cons (pv 0) (pa_cons (pv 1) pa_nil))) (blkOk_by (N := N_l_same) (sc := defScope (top 55)) (own := [("_law_mine", 2), ("_law_theirs", 3)]) (by decide +kernel)) (fun _ _ _ _ _ => (pg_tup rfl (pgs_cons (pg_name (i := 2) nd rfl (Or.inl rfl)) (pgs_cons (pg_name (i := 3) nd rfl (Or.inl rfl)) pgs_nil)))) (fun _ _ _ _ _ => pts_nil) (fun _ _ _ _ _ => (pe_callD D_l_same hr (by omega) rfl pass0 (pa_cons (pv 2) (pa_cons (pv 3) pa_nil))))) pa_nil))))))) pss_nil)
    (pss_cons (ps_if (pt_val (pe_callB call_isF (by rfl) T.fr_isinstance bb_isinstance (pa_cons (pv 1) (pa_cons (pe_bltn (v := .ty "dict") rfl (T.fr_dict) bb_dict rfl) pa_nil)))) (pss_one (ps_ret (pe_and (pe_callB call_isF (by rfl) T.fr_isinstance bb_isinstance (pa_cons (pv 0) (pa_cons (pe_bltn (v := .ty "dict") rfl (T.fr_dict) bb_dict rfl) pa_nil))) (pe_one (pe_callD D_l_same hr (by omega) rfl pass0 (pa_cons (pe_listItems rfl (pv 0) rfl T.fr_list bb_list) (pa_cons (pe_listItems rfl (pv 1) rfl T.fr_list bb_list) pa_nil))))))) pss_nil)
    (pss_cons (ps_if (PW.pt (pw_or (pt_val (pe_callB call_isF (by rfl) T.fr_isinstance bb_isinstance (pa_cons (pv 1) (pa_cons (pe_bltn (v := .ty "bool") rfl (T.fr_bool) bb_bool rfl) pa_nil)))) (pw_or1 (pt_val (pe_callB call_isF (by rfl) T.fr_isinstance bb_isinstance (pa_cons (pv 0) (pa_cons (pe_bltn (v := .ty "bool") rfl (T.fr_bool) bb_bool rfl) pa_nil))))))) (pss_one (ps_ret (pe_and (pe_callB call_isF (by rfl) T.fr_isinstance bb_isinstance (pa_cons (pv 1) (pa_cons (pe_bltn (v := .ty "bool") rfl (T.fr_bool) bb_bool rfl) pa_nil))) (pe_and (pe_callB call_isF (by rfl) T.fr_isinstance bb_isinstance (pa_cons (pv 0) (pa_cons (pe_bltn (v := .ty "bool") rfl (T.fr_bool) bb_bool rfl) pa_nil))) (pe_one (pe_cmpR (op_eqF (Room.eq hr)) (pv 0) (pv 1) (nomark _))))))) pss_nil)
    (pss_one (ps_ret (pe_and (pe_not (pe_callB call_isFT (by rfl) T.fr_isinstance bb_isinstance (pa_cons (pv 0) (pa_cons (pe_tup (pa_cons (pe_bltn (v := .ty "list") rfl (T.fr_list) bb_list rfl) (pa_cons (pe_bltn (v := .ty "tuple") rfl (T.fr_tuple) bb_tuple rfl) (pa_cons (pe_bltn (v := .ty "dict") rfl (T.fr_dict) bb_dict rfl) pa_nil)))) pa_nil)))) (pe_one (pe_cmpR (op_eqF (Room.eq hr)) (pv 0) (pv 1) (nomark _))))))))), read_R ?_ h⟩)
  rintro S ds R ⟨x, rfl, hx, rfl⟩ _
  have eqb : ∀ b : Bool, PyData.eqv (.bool b) (.bool b) = true := fun b => by cases b <;> rfl
  have hds : ∀ n ds, Sm n x → seqD x = some ds → (∀ e ∈ ds, ∃ m, n = m + 1 ∧ Sm m e) ∧ ds.length ≤ 1000 := fun n ds h es => by
    cases n with
    | zero =>
      rcases h with h | ⟨b, rfl⟩ | rfl | h
      · cases x <;> first | (cases es; done) | (cases h; done)
      · cases es
      · cases es
      · rw [h] at es; cases es; simp
    | succ n =>
      rcases h with h | ⟨b, rfl⟩ | rfl | rfl | ⟨ds', h, hl, hh⟩
      · cases x <;> first | (cases es; done) | (cases h; done)
      · cases es
      · cases es
      · cases es
      · rw [h] at es; cases es
        exact ⟨fun e he => ⟨n, rfl, hh e he⟩, hl⟩
  have callS : ∀ m, n = m + 1 → ∀ e, Sm m e → ∀ {Γ : Cxt} {t : TA} {c1 : Nat} {E : XK}, HasA ⟨K, TT, S⟩ c1 t Γ (fun l => l = [e, e]) → HasE ⟨K, TT, S⟩ (c1 + 0) (tCall sS [] E t) Γ (tyD ⟨K, TT, S⟩ (.bool true)) := fun m em e he {Γ t c1 E} ha => by
    obtain ⟨m', em', es⟩ := hs.resolve_left (by omega)
    have : m = m' := by omega
    subst this es
    exact has_callR ha fun l el => ⟨by rw [el]; rfl, _, ⟨e, el, he, rfl⟩, fun _ _ _ _ h => h⟩
  have hcase : (∃ ds, seqD x = some ds ∧ ds.length ≤ 1000 ∧ ∀ e ∈ ds, ∃ m, n = m + 1 ∧ Sm m e) ∨ (isStrm x = false ∧ instB (kd x) "list" = false ∧ instB (kd x) "tuple" = false ∧ instB (kd x) "dict" = false ∧ instB (kd x) "bool" = false ∧ ∀ Γ, Γ[0]? = some (some (tyD ⟨K, TT, S⟩ x)) → Γ[1]? = some (some (tyD ⟨K, TT, S⟩ x)) → HasE ⟨K, TT, S⟩ 0 (tOp (rEqF K) (tVar 0) (tVar 1)) Γ (tyD ⟨K, TT, S⟩ (.bool true))) ∨ (∃ b, x = .bool b) ∨ (x = .dict [] ∧ ∃ m, n = m + 1) := by
    cases hq : seqD x with
    | some ds => exact .inl ⟨ds, rfl, (hds n ds hx hq).2, (hds n ds hx hq).1⟩
    | none =>
      have hx' : scalD x = true ∨ (∃ b, x = .bool b) ∨ x = fnD ∨ (x = .dict [] ∧ ∃ m, n = m + 1) := by
        cases n with
        | zero =>
          rcases hx with h | h | h | h
          · exact .inl h
          · exact .inr (.inl h)
          · exact .inr (.inr (.inl h))
          · rw [hq] at h; cases h
        | succ n =>
          rcases hx with h | h | h | h | ⟨ds, h, _⟩
          · exact .inl h
          · exact .inr (.inl h)
          · exact .inr (.inr (.inl h))
          · exact .inr (.inr (.inr ⟨h, n, rfl⟩))
          · rw [hq] at h; cases h
      rcases hx' with h | h | rfl | h
      · obtain ⟨h1, h2, h3⟩ := eqOk_scal h
        refine .inr (.inl ⟨h3, ?_, ?_, ?_, ?_, fun Γ g1 g2 => has_conv (has_eqF1 (has_var g1) (has_var g2) h1 h1) (by rw [h2])⟩)
        all_goals cases x <;> first | rfl | cases h
      · exact .inr (.inr (.inl h))
      · exact .inr (.inl ⟨rfl, rfl, rfl, rfl, rfl, fun Γ g1 g2 => has_eqF2 O (has_var g1) (has_var g2)⟩)
      · exact .inr (.inr (.inr h))
  rcases hcase with ⟨ds, es, hl, he⟩ | ⟨hs, h1, h2, h3, h4, he⟩ | ⟨b, rfl⟩ | ⟨rfl, m, em⟩
  · have hc : ∀ e ∈ ds, ∀ Γ, Γ[2]? = some (some (tyD ⟨K, TT, S⟩ e)) → Γ[3]? = some (some (tyD ⟨K, TT, S⟩ e)) → HasE ⟨K, TT, S⟩ 0 (tCall sS [] (fun _ _ _ => False) (tCons (tVar 2) (tCons (tVar 3) tNil))) Γ (tyD ⟨K, TT, S⟩ (.bool true)) := fun e hm Γ g1 g2 => by
      obtain ⟨m, em, hm⟩ := he e hm
      exact callS m em e hm (has_cons (has_var g1) (has_cons (has_var g2) has_nil))
    clear he
    have hs := isStrm_seq es
    have t1 := hast_B (has_isiT2 (C := ⟨K, TT, S⟩) (T1 := "list") (T2 := "tuple") (d := x) O (has_var (Γ := cxt ⟨K, TT, S⟩ [x, x] N_l_same.length) (n := 1) rfl) hs)
    have hb : (instB (kd x) "list" || instB (kd x) "tuple") = true := by rw [isListD_eq, isListD, es]; rfl
    rw [hb] at t1
    refine hasS_0 (hasS_seqif (b := true) (c2 := 0) (c3 := 0) t1 (fun _ => hasS_seq_nvr (hasS_0 (hasS_ifret (b := false) (c2 := 0) (c3 := 0 + 0 + (0 + 0 + ds.length * (0 + 0))) (hast_conv (hast_or (hast_test (has_ne (has_isi (T := "list") O (has_var rfl) hs) (has_isi (T := "list") O (has_var rfl) hs) eqOk_bool eqOk_bool)) fun _ => hast_test (has_ne (has_isi (T := "tuple") O (has_var rfl) hs) (has_isi (T := "tuple") O (has_var rfl) hs) eqOk_bool eqOk_bool)) (by rw [eqb, eqb]; rfl)) (fun z => by cases z) fun _ =>
      hasS_ret (has_conv (has_andV (has_eqI (has_len (has_var rfl) es) (has_len (has_var rfl) es)) fun _ => has_all (bs := ds.map fun _ => true) (has_conv (has_map ds (fun e => .tuple [e, e]) (fun _ => .bool true) (i_conv (i_zip (has_var rfl) (has_var rfl) es es ?_) ?_) (by omega) fun e he => ⟨_, _, g_tup (gs_cons g_name (gs_cons g_name gs_nil)) rfl, by simp, hc e he _ rfl rfl⟩) ?_)) ?_)) (by simp))) fun z => by cases z) rfl
    · cases x <;> first | rfl | cases es
    · exact zip_self ds
    · rw [List.map_map]; rfl
    · simp
  · have t1 := hast_B (has_isiT2 (C := ⟨K, TT, S⟩) (T1 := "list") (T2 := "tuple") (d := x) O (has_var (Γ := cxt ⟨K, TT, S⟩ [x, x] N_l_same.length) (n := 1) rfl) hs)
    have t2 := hast_B (has_isi (C := ⟨K, TT, S⟩) (T := "dict") (d := x) O (has_var (Γ := cxt ⟨K, TT, S⟩ [x, x] N_l_same.length) (n := 1) rfl) hs)
    have t3 := hast_or (hast_B (has_isi (C := ⟨K, TT, S⟩) (T := "bool") (d := x) O (has_var (Γ := cxt ⟨K, TT, S⟩ [x, x] N_l_same.length) (n := 1) rfl) hs)) fun _ => hast_B (has_isi (C := ⟨K, TT, S⟩) (T := "bool") (d := x) O (has_var (Γ := cxt ⟨K, TT, S⟩ [x, x] N_l_same.length) (n := 0) rfl) hs)
    have e5 := has_andV (has_notV (has_isiT3 (C := ⟨K, TT, S⟩) (T1 := "list") (T2 := "tuple") (T3 := "dict") (d := x) O (has_var (Γ := cxt ⟨K, TT, S⟩ [x, x] N_l_same.length) (n := 0) rfl) hs)) fun _ => he _ rfl rfl
    rw [h1, h2] at t1
    rw [h3] at t2
    rw [h4] at t3
    rw [h1, h2, h3] at e5
    exact hasS_0 (hasS_seqif (b := false) (c2 := 0) (c3 := 0) t1 (fun z => by cases z) fun _ => hasS_seq_next (hasS_0 (hasS_seqif (b := false) (c2 := 0) (c3 := 0) t2 (fun z => by cases z) fun _ => hasS_seq_next (hasS_0 (hasS_seqif (b := false) (c2 := 0) (c3 := 0) t3 (fun z => by cases z) fun _ => hasS_seq_next (hasS_ret e5)) rfl)) rfl)) rfl
  · have t1 := hast_B (has_isiT2 (C := ⟨K, TT, S⟩) (T1 := "list") (T2 := "tuple") (d := .bool b) O (has_var (Γ := cxt ⟨K, TT, S⟩ [.bool b, .bool b] N_l_same.length) (n := 1) rfl) rfl)
    have t2 := hast_B (has_isi (C := ⟨K, TT, S⟩) (T := "dict") (d := .bool b) O (has_var (Γ := cxt ⟨K, TT, S⟩ [.bool b, .bool b] N_l_same.length) (n := 1) rfl) rfl)
    have t3 := hast_or (hast_B (has_isi (C := ⟨K, TT, S⟩) (T := "bool") (d := .bool b) O (has_var (Γ := cxt ⟨K, TT, S⟩ [.bool b, .bool b] N_l_same.length) (n := 1) rfl) rfl)) fun _ => hast_B (has_isi (C := ⟨K, TT, S⟩) (T := "bool") (d := .bool b) O (has_var (Γ := cxt ⟨K, TT, S⟩ [.bool b, .bool b] N_l_same.length) (n := 0) rfl) rfl)
    exact hasS_0 (hasS_seqif (b := false) (c2 := 0) (c3 := 0) (hast_conv t1 rfl) (fun z => by cases z) fun _ => hasS_seq_next (hasS_0 (hasS_seqif (b := false) (c2 := 0) (c3 := 0) (hast_conv t2 rfl) (fun z => by cases z) fun _ => hasS_seq_next (hasS_0 (hasS_seqif (b := true) (c2 := 0) (c3 := 0) (hast_conv t3 rfl) (fun _ => hasS_seq_nvr (hasS_ret (has_conv (has_andV (has_isi (T := "bool") O (has_var rfl) rfl) fun _ => has_andV (has_isi (T := "bool") O (has_var rfl) rfl) fun _ => has_eqF1 (has_var rfl) (has_var rfl) eqOk_bool eqOk_bool) (by rw [eqb]; rfl)))) fun z => by cases z) rfl)) rfl)) rfl
  · have t1 := hast_B (has_isiT2 (C := ⟨K, TT, S⟩) (T1 := "list") (T2 := "tuple") (d := .dict []) O (has_var (Γ := cxt ⟨K, TT, S⟩ [.dict [], .dict []] N_l_same.length) (n := 1) rfl) rfl)
    have t2 := hast_B (has_isi (C := ⟨K, TT, S⟩) (T := "dict") (d := .dict []) O (has_var (Γ := cxt ⟨K, TT, S⟩ [.dict [], .dict []] N_l_same.length) (n := 1) rfl) rfl)
    have hm : Sm m (.list []) := by
      cases m with
      | zero => exact .inr (.inr (.inr rfl))
      | succ m => exact .inr (.inr (.inr (.inr ⟨[], rfl, by simp, by simp⟩)))
    exact hasS_0 (hasS_seqif (b := false) (c2 := 0) (c3 := 0) (hast_conv t1 rfl) (fun z => by cases z) fun _ => hasS_seq_next (hasS_0 (hasS_seqif (b := true) (c2 := 0) (c3 := 0) (hast_conv t2 rfl) (fun _ => hasS_seq_nvr (hasS_ret (has_conv (has_andV (has_isi (T := "dict") O (has_var rfl) rfl) fun _ => callS m em _ hm (has_cons (has_items (has_var rfl)) (has_cons (has_items (has_var rfl)) has_nil))) rfl))) fun z => by cases z) rfl)) rfl
end
end Q6
end
section
set_option maxHeartbeats 4000000
set_option exponentiation.threshold 2000000
/-! repr; defs that ask for repr; calls by keywords alone. -/
namespace Q6
open PySem PySem.Spec PyProof.Rows L2 LamX RZ Qk
/-- what repr can be asked of -/
structure Shw (n k : Nat) (d : PyData) : Prop where
  lv : d.leavesShort 1001 = true
  sh : d.showable = true
  nd : noDict d = true
  hd : d.hasDict = false
  bk : d.bulk ≤ n
  dp : d.depth ≤ k
theorem Shw.mono {n k n' k' : Nat} {d : PyData} (h : Shw n k d) (l : n ≤ n') (l' : k ≤ k') : Shw n' k' d := ⟨h.lv, h.sh, h.nd, h.hd, Nat.le_trans h.bk l, Nat.le_trans h.dp l'⟩
theorem shw_int {i : Int} (h : i.natAbs < 2 ^ 1000) : Shw 0 0 (.int i) := by
  have hl : i.natAbs.log2 < 1000 := by
    by_cases z : i.natAbs = 0
    · rw [z]; decide
    · exact (Nat.log2_lt z).mpr h
  refine ⟨?_, decide_eq_true (by omega), rfl, rfl, Nat.le_refl _, by simp [PyData.depth]⟩
  refine decide_eq_true ?_
  show (Str.ofString (toString i)).length ≤ 1001
  rw [PySem.ofString_length]
  exact int_text_length_le (k := 1000) (by decide) hl
theorem shw_all {n k : Nat} : ∀ {ds : List PyData}, (∀ d ∈ ds, Shw n k d) → PyData.leavesShortAll 1001 ds = true ∧ PyData.showableAll ds = true ∧ noDictAll ds = true ∧ PyData.hasDictAll ds = false ∧ PyData.bulkAll ds ≤ ds.length * (n + 1) ∧ PyData.depthAll ds ≤ k
  | [], _ => ⟨rfl, rfl, rfl, rfl, Nat.zero_le _, by simp [PyData.depthAll]⟩
  | d :: ds, h => by
    obtain ⟨h1, h2, h3, h4, h5, h6⟩ := shw_all (ds := ds) fun e he => h e (List.mem_cons_of_mem _ he)
    obtain ⟨g1, g2, g3, g4, g5, g6⟩ := h d (List.mem_cons_self ..)
    refine ⟨by simp [PyData.leavesShortAll, g1, h1], by simp [PyData.showableAll, g2, h2], by simp [noDictAll, g3, h3], by simp [PyData.hasDictAll, g4, h4], ?_, ?_⟩
    · simp only [PyData.bulkAll, List.length_cons, Nat.add_mul]; omega
    · simp only [PyData.depthAll]; omega
theorem shw_lst {n k : Nat} {ds : List PyData} (h : ∀ d ∈ ds, Shw n k d) : Shw (ds.length * (n + 1)) (k + 1) (.list ds) := by
  obtain ⟨h1, h2, h3, h4, h5, h6⟩ := shw_all h
  exact ⟨h1, h2, h3, h4, h5, by simp only [PyData.depth]; omega⟩
theorem shw_tup {n k : Nat} {ds : List PyData} (h : ∀ d ∈ ds, Shw n k d) : Shw (ds.length * (n + 1)) (k + 1) (.tuple ds) := by
  obtain ⟨h1, h2, h3, h4, h5, h6⟩ := shw_all h
  exact ⟨h1, h2, h3, h4, h5, by simp only [PyData.depth]; omega⟩
theorem Shw.len {n k : Nat} {d : PyData} (h : Shw n k d) (hn : n ≤ 16000) : d.shown.length ≤ sizeLine := by
  have h1 := PyData.shown_le_bulk 1001 (by decide) d h.lv
  have h2 := Nat.mul_le_mul_left (1001 + 2) (Nat.le_trans h.bk hn)
  rw [sizeLine_eq]; omega
/-- repr of a datum -/
def rRepr (K : PySem.W.Frag) : List V → Hp → VK → Prop := fun xs H Q => ∃ a d, xs = [.ref a] ∧ Dp K H (.ref a) d ∧ d.showable = true ∧ d.hasDict = false ∧ d.depth ≤ 20 ∧ d.shown.length ≤ sizeLine ∧ Q (.str d.shown) H
theorem call_repr {X : Cx} (hg : X.A.guards = some []) (hu : X.A.units + 64 < cLine) : CallR X (.builtin "repr") (rRepr X.K) := by
  intro pins s σ H xs us Q I r h
  obtain ⟨a, d, rfl, hd, hs, hn, hp, hl, q⟩ := h
  cases r with
  | cons r1 r =>
    cases r
    obtain ⟨as, rr⟩ := Dp.reads I d _ _ hd r1
    cases (show _ = Value.ref a from r1)
    exact repr_of_reads' rr hs (fun z => by rw [hn] at z; cases z) hg (by omega) (fun _ _ e => e) (fun h' u tk hk => ⟨.str d.shown, H, I.kept (t' := tk) hk, ⟨u, rfl⟩, q⟩) hl
theorem has_repr {C : Cf} {Γ : Cxt} {c n k : Nat} {te : TE} {d : PyData} {ds : List PyData} (h : HasE C c te Γ (tyD C d)) (hq : seqD d = some ds) (hs : Shw n k d) (hn : n ≤ 16000) (hk : k ≤ 20) : HasE C c (tCB (rRepr C.K) (tCons te tNil)) Γ (tyD C (.str d.shown)) := fun M k σ H Q ok st q =>
  h M k σ H _ ok st fun v H1 g1 o1 p => by
    obtain ⟨a, xs, ev, _⟩ := d_seq p hq
    subst ev
    exact ⟨a, d, rfl, (p.ext ext_sub).dp hs.nd, hs.sh, hs.hd, Nat.le_trans hs.dp hk, hs.len hn, q _ _ g1 o1 (.str _)⟩
/-- texts compared -/
theorem has_neS {C : Cf} {Γ : Cxt} {c1 c2 : Nat} {ta tb : TE} {x y : Str} (h1 : HasE C c1 ta Γ (tyD C (.str x))) (h2 : HasE C c2 tb Γ (tyD C (.str y))) : HasE C (c1 + c2) (tOp L2.rNe ta tb) Γ (tyD C (.bool (!decide (x = y)))) := has_op h1 h2 fun M k a b H Q ok p1 p2 q => by
  have e1 := d_str p1
  have e2 := d_str p2
  subst e1 e2
  have : decide (V.str x = V.str y) = decide (x = y) := by simp
  exact ⟨rfl, by rw [this]; exact q _ H (go.refl H) ok (.bl _)⟩
/-! ### defs that need no guards around -/
structure DefG (P : Program) (w : World) (K : PySem.W.Frag) (mg : Str → Option Value) (base : Heap) (k : Nat) (x : Str) (ps : List Str) (sp : Sp) : Prop where
  ex : ∃ fd, (∀ (A : Around) (outer : List Env) (s : Shared) (H : Hp) (args : Args) (us : List Value) (vs : List V) (Q : VK) (E : XK), A.guards = some [] → Room k A → Env0 P w K mg base A outer s H → BindsTo s fd args (ps.zip us) → Vals vs us → sp vs H Q E → codeAny (model P w) A (.call (.ref (He.ga K x)) args) (CR CX0 outer P w H s Q E) s) ∧ Binds K fd ps []
  len : ∀ vs H Q E, sp vs H Q E → vs.length = ps.length
  gm : mg x = some (.ref (He.ga K x))
  kp : PySem.W.keepIn K (.ref (He.ga K x)) = true
section
variable {P : Program} {w : World} {K : PySem.W.Frag} {mg : Str → Option Value} {base : Heap}
theorem def_ofG {x : Str} {i k : Nat} {N ps : List Str} {sp : Sp} (F : At K mg x i) (S : FnScope N ps (defScope (top i)))
    (hb : ∀ (kV doc pm : Value) (an : Option Addr) (cdv ct : Value) (us : List Value), us.length = ps.length → bindArgs (PySem.W.fnOf x x (defArgs (top i)) (defBody (top i)) (defScope (top i)) .none kV doc pm an cdv ct) ⟨us, []⟩ = pure (ps.zip us))
    (len : ∀ vs H Q E, sp vs H Q E → vs.length = ps.length)
    (hbody : ∀ (cdv : Value) (A : Around) (outer : List Env) (s : Shared) (H : Hp) (vs : List V) (Q : VK) (E : XK), A.guards = some [] → Room k (A.deeper (envOfC x (defScope (top i)) s.heap.objs.size (He.ga K x) cdv)) → sp vs H Q E →
      ∃ t, PSs (cxOf CX0 P w K mg base N x (defScope (top i)) (He.ga K x) cdv A outer s H E).nox (defBody (top i)) t ∧ t { nx := fun _ H' => Q .non H', rt := Q } (L2.start N vs) H) : DefG P w K mg base (k + 1) x ps sp := by
  obtain ⟨fd, F1⟩ := F.ex
  refine ⟨⟨fd, fun A outer s H args us vs Q E hg hr e0 hbd r h => ?_, F1.bindsN hb⟩, len, F.gm, F1.kp⟩
  obtain ⟨oc, od, dV, kV, doc, pm, an, cdv, ct, osl, rfl, lk, hcd, _, _⟩ := F1.ex
  exact run_ofS lk hcd S hr e0 hbd r (len _ _ _ _ h) fun hr' => by
    obtain ⟨t, h1, h2⟩ := hbody cdv A outer s H vs Q E hg hr' h
    exact ⟨t, PSs.nox h1, h2⟩
end
section
variable {X : Cx} {k : Nat} {ps : List Str} {sp : Sp} {x : Str} {p pos : Pos} {e : Expr} {es : List Expr} {t : TA}
theorem pe_callG {k' : Nat} (D : DefG X.prog X.w X.K X.mg X.base k x ps sp) (hgu : X.A.guards = some []) (hr : Room k' X.A) (hk : k ≤ k') (hg : Gl X x) (ha : PA X (e :: es) t)
    (hdb : (x == ("__debug__" : Str)) = false := by decide) (he : starEach (e :: es) X.env = (false, eval e X.env) :: starEach es X.env := by rfl) (hpl : (backTo pos (starEach es X.env)).any (·.1) = false := by rfl) :
    PE X (.Call (.Name x p) (e :: es) [] pos) (tCall sp [] E0 t) := by
  obtain ⟨fd, F, b⟩ := D.ex
  refine ⟨fun pins s σ H Q I h => ?_⟩
  refine wpAny_Call_Name_kw (ld_glob I hg D.gm ?_ hdb)
  refine PySem.W.callWith_K (h₀ := X.base) I.ok.mod.kin D.kp (thn (ha.run pos pins s σ H _ I h) fun us s1 ⟨vs, H1, I1, r, q⟩ => ⟨I1.kIn, ?_⟩) he hpl
  have hl : (us ++ ([] : List Value)).length = ps.length := by rw [List.append_nil, ← r.length]; have := D.len _ _ _ _ q; rwa [List.append_nil] at this
  have hbd := b s1 us I1.kIn hl
  have q : sp (vs ++ []) H1 Q E0 := q
  rw [List.append_nil] at hbd q
  refine wpAny_call (codeAny_mono (F X.A X.stack s1 H1 ⟨us, []⟩ us vs Q E0 hgu (hr.mono hk) I1.env0 hbd r q) fun r s' hq => ?_)
  cases r with
  | error e => exact (show False from hq).elim
  | ok fl =>
    cases fl with
    | ret u => exact I1.after hq
    | next => exact False.elim hq
    | brk => exact False.elim hq
    | cont => exact False.elim hq
end
/-! ### keywords alone -/
theorem kbinds {K : PySem.W.Frag} {mg : Str → Option Value} {x : Str} {i : Nat} {ps ks : List Str} {g : List Value → List Value → List Value} {gV : List V → List V → List V} (F : At K mg x i)
    (hb : ∀ (kV doc pm : Value) (an : Option Addr) (cdv ct : Value) (us ws : List Value), (g us ws).length = ps.length → bindArgs (PySem.W.fnOf x x (defArgs (top i)) (defBody (top i)) (defScope (top i)) .none kV doc pm an cdv ct) ⟨us, ks.zip ws⟩ = pure (ps.zip (g us ws)))
    (rel : ∀ {vs : List V} {us : List Value} {zs : List V} {ws : List Value}, Vals vs us → Vals zs ws → Vals (gV vs zs) (g us ws)) {fd : FuncData} (h : HasFd K (He.ga K x) fd) : KBinds K fd ps ks g gV := by
  obtain ⟨fd', F1⟩ := F.ex
  obtain ⟨oc, od, dV, kV, doc, pm, an, cdv, ct, osl, e, lk, _, hD, _⟩ := F1.ex
  obtain ⟨oc', od', osl', lk'⟩ := h
  rw [lk] at lk'
  cases lk'
  rcases hD with ⟨_, z⟩ | ⟨z, _⟩
  · subst z e
    exact ⟨fun s us ws _ hl => .of_eq (hb kV doc pm an cdv ct us ws hl), rel⟩
  · exact absurd rfl z
section
variable {X : Cx} {CX : CXT} {k : Nat} {ps ks : List Str} {sp : Sp} {E : XK} {x : Str} {p pos : Pos} {kws : List Keyword} {tk : TA} {g : List Value → List Value → List Value} {gV : List V → List V → List V}
theorem pe_callK0 {k' : Nat} (D : Def X.prog X.w X.K X.mg X.base CX k x ps sp) (hr : Room k' X.A) (hk : k ≤ k') (hg : Gl X x) (hb : ∀ fd, HasFd X.K (He.ga X.K x) fd → KBinds X.K fd ps ks g gV) (hx : Passes CX X E) (hkw : PK X kws tk)
    (hall : (backToKw pos (keywordEach kws X.env)).all (·.1.isSome) = true := by rfl) (hks : (backToKw pos (keywordEach kws X.env)).filterMap (·.1) = ks := by rfl) (hdb : (x == ("__debug__" : Str)) = false := by decide)
    (hpl : ((backTo pos (starEach [] X.env)).any (·.1) || (backToKw pos (keywordEach kws X.env)).any (·.1.isNone)) = false := by rfl) : PE X (.Call (.Name x p) [] kws pos) (tCallK sp gV E tNil tk) := by
  obtain ⟨fd, F, b, hfd⟩ := D.ex
  refine ⟨fun pins s σ H Q I h => ?_⟩
  refine wpAny_Call_Name_kw (ld_glob I hg D.gm ?_ hdb)
  refine PySem.W.callWith_KW0 (h₀ := X.base) I.ok.mod.kin D.kp hall (thn (hkw.run pos pins s σ H _ I h) fun ws s2 ⟨zs, H2, I2, rz, q2⟩ => ⟨I2.kIn, ?_⟩) hpl
  rw [hks]
  exact run_fnk F (hr.mono hk) (hb fd hfd) hx I2 .nil rz q2
end
end Q6
end
section
set_option maxHeartbeats 4000000
set_option exponentiation.threshold 2000000
/-! New curves in a list, told by repr, then changed. -/
namespace Q6
open PySem PySem.Spec PyProof.Rows L2 LamX RZ Qk
/-- new pairs ps, their new lists ls, their slopes ss -/
inductive PU (C : Cf) (H : Hp) : List Addr → List Addr → List PyData → Prop
  | nil : PU C H [] [] []
  | cons {p l : Addr} {sv : V} {s : PyData} {ps ls : List Addr} {ss : List PyData} : H p = some (.tup [.ref l, sv]) → Dq C H sv s → PU C H ps ls ss → PU C H (p :: ps) (l :: ls) (s :: ss)
theorem PU.ext {C : Cf} {H H' : Hp} (x : ExtN H H') {ps ls : List Addr} {ss : List PyData} (h : PU C H ps ls ss) : PU C H' ps ls ss := by
  induction h with
  | nil => exact .nil
  | cons h1 h2 _ ih => exact .cons (x _ _ h1 fun ps z => by cases z) (h2.ext x) ih
theorem PU.get {C : Cf} {H : Hp} {ps ls : List Addr} {ss : List PyData} (h : PU C H ps ls ss) : ∀ {i : Nat} {x : V}, (ps.map V.ref)[i]? = some x → ∃ p l sv, x = .ref p ∧ l ∈ ls ∧ H p = some (.tup [.ref l, sv]) := by
  induction h with
  | nil => intro i x e; simp at e
  | cons h1 h2 _ ih =>
    intro i x e
    cases i with
    | zero => simp at e; exact ⟨_, _, _, e.symm, List.mem_cons_self .., h1⟩
    | succ i =>
      obtain ⟨p, l, sv, e1, e2, e3⟩ := ih (i := i) (x := x) (by simpa using e)
      exact ⟨p, l, sv, e1, List.mem_cons_of_mem _ e2, e3⟩
abbrev Mku := List PyData × PyData
/-- the new lists, the last ahead -/
def ow : List Addr → List Mku → Own → Own
  | l :: ls, u :: us, A => ow ls us ((l, u.1) :: A)
  | _, _, A => A
theorem ow_mem : ∀ {ls : List Addr} {us : List Mku} {A : Own} {p : Addr × List PyData}, p ∈ A → p ∈ ow ls us A
  | [], _, _, _, h => h
  | _ :: _, [], _, _, h => h
  | l :: ls, u :: us, A, p, h => ow_mem (ls := ls) (us := us) (List.mem_cons_of_mem _ h)
theorem ow_pair : ∀ {ls : List Addr} {us : List Mku} {A : Own}, ls.length = us.length → Paired (fun l (u : Mku) => (l, u.1) ∈ ow ls us A) ls us
  | [], [], _, _ => .nil
  | l :: ls, u :: us, A, h => .cons (ow_mem (ls := ls) (us := us) (List.mem_cons_self ..)) (ow_pair (ls := ls) (us := us) (by simpa using h))
theorem ow_of : ∀ {ls : List Addr} {us : List Mku} {A : Own} {p : Addr × List PyData}, p ∈ ow ls us A → p ∈ A ∨ ∃ u ∈ us, p.2 = u.1
  | [], _, _, _, h => .inl h
  | _ :: _, [], _, _, h => .inl h
  | l :: ls, u :: us, A, p, h => by
    rcases ow_of (ls := ls) (us := us) h with h | ⟨v, h1, h2⟩
    · rcases List.mem_cons.mp h with h | h
      · exact .inr ⟨u, List.mem_cons_self .., by rw [h]⟩
      · exact .inl h
    · exact .inr ⟨v, List.mem_cons_of_mem _ h1, h2⟩
/-- arguments that are new curves -/
def HasMk (C : Cf) (c : Nat) (tr : TA) (Γ : Cxt) (us : List Mku) : Prop := ∀ (M0 : List Addr) (H0 N : Hp) (k : Nat) (σ : L2.St) (H : Hp) (A : Own) (Q : List V → Hp → Prop), At0 C (k + c) M0 H0 N A Γ σ H →
  (∀ (ps ls : List Addr) (H' : Hp), ls.length = us.length → At0 C k M0 H0 N (ow ls us A) Γ σ H' → PU C (hide ((ow ls us A).map (·.1) ++ M0) H') ps ls (us.map (·.2)) → Q (ps.map V.ref) H') → tr σ H Q
section
variable {C : Cf} {Γ : Cxt} {c c1 c2 c3 : Nat} {us : List Mku} {A : Own} {B : Post} {R : Res} {n j m : Nat}
theorem At0.reN {k : Nat} {M0 : List Addr} {H0 N N' H : Hp} {σ : L2.St} (a : At0 C k M0 H0 N' A Γ σ H) (x : ExtN N N') : At0 C k M0 H0 N A Γ σ H := ⟨a.ok, a.ok0, a.gone, x.trans a.kept, a.own, a.nd, a.sat⟩
theorem mk_nil : HasMk C 0 tNil Γ [] := fun M0 H0 N k σ H A Q a q => q [] [] H rfl a .nil
theorem mk_cons {F : List PyData → Out → Prop} {nn : Nat} {E : XK} {tr1 tr : TA} {ds : List PyData} {cs : List PyData} {s : PyData} (ha : HasA C c1 tr1 Γ (fun l => l = ds)) (hl : ds.length = nn) (hF : F ds (.ok (rU cs s))) (hr : HasMk C c3 tr Γ us) :
    HasMk C (c1 + (c2 + c3)) (tCons (tCall (spE C.T C.K c2 F nn) [] E tr1) tr) Γ ((cs, s) :: us) := fun M0 H0 N k σ H A Q a q =>
  ha _ (k + (c2 + c3)) σ H _ (a.le (by omega) : At0 C _ M0 H0 N A Γ σ H).ok a.sat fun xs H1 es g1 o1 e p => by
    subst e
    have a1 := a.gos g1 o1
    refine ⟨C.S, _, k + c3, es, _, by rw [List.append_nil, dA_len p, hl], o1.le (by omega), by rw [List.append_nil]; exact p, hF, fun v H2 g2 o2 hu => ?_⟩
    obtain ⟨p0, l, xs2, sv, ev, n1, nm, hx, hr1, hp0, hsv⟩ := hu
    subst ev
    have a2 := own_fresh a1 g2 o2 n1 nm hx hr1
    have a3 : At0 C (k + c3) M0 H0 (hide (((l, cs) :: A).map (·.1) ++ M0) H2) ((l, cs) :: A) Γ σ H2 := ⟨a2.ok, a2.ok0, a2.gone, ExtN.refl _, a2.own, a2.nd, a2.sat⟩
    refine hr M0 H0 _ k σ H2 ((l, cs) :: A) _ a3 fun ps ls H' hls a4 hpu => q (p0 :: ps) (l :: ls) H' (by simp [hls]) (a4.reN a2.kept) (.cons (a4.kept _ _ hp0 fun ps z => by cases z) (hsv.ext a4.kept) hpu)
/-- nothing is one's own any more -/
theorem own_all {k : Nat} {M0 : List Addr} {H0 N H : Hp} {σ : L2.St} (a : At0 C k M0 H0 N A Γ σ H) : At0 C k M0 H0 N [] Γ σ H := by
  have x : ExtN (hide (A.map (·.1) ++ M0) H) (hide M0 H) := ext_more fun b hb => List.mem_append_right _ hb
  exact ⟨a.ok0, a.ok0, a.gone, a.kept.trans x, fun p hp => (nomatch hp), List.nodup_nil, a.sat.ext x⟩
theorem own_dq {k : Nat} {M0 : List Addr} {H0 N H : Hp} {σ : L2.St} {l : Addr} {ds : List PyData} (a : At0 C k M0 H0 N A Γ σ H) (h : (l, ds) ∈ A) : Dq C (hide M0 H) (.ref l) (.list ds) := by
  have x : ExtN (hide (A.map (·.1) ++ M0) H) (hide M0 H) := ext_more fun b hb => List.mem_append_right _ hb
  obtain ⟨h1, h2, xs, h3, h4⟩ := a.own _ h
  exact .lst (by rw [hide_out h2]; exact h3) (h4.ext x)
def mkD (us : List Mku) : PyData := .list (us.map fun u => .tuple [.list u.1, u.2])
theorem pu_dq {H : Hp} {F : Addr} (hF : H F = some (.lst ((ps : List Addr).map V.ref))) {ls : List Addr} (hp : PU C H ps ls (us.map (·.2))) (hl : Paired (fun l (u : Mku) => Dq C H (.ref l) (.list u.1)) ls us) : Dq C H (.ref F) (mkD us) := by
  refine .lst hF ?_
  clear hF
  have key : ∀ {ps ls : List Addr} {ss : List PyData}, PU C H ps ls ss → ∀ us : List Mku, ss = us.map (·.2) → Paired (fun l (u : Mku) => Dq C H (.ref l) (.list u.1)) ls us → DqAll C H (ps.map V.ref) (us.map fun u => .tuple [.list u.1, u.2]) := by
    intro ps ls ss h
    induction h with
    | nil =>
      intro us e hq
      cases hq
      exact .nil
    | cons h1 h2 _ ih =>
      intro us e hq
      cases hq with
      | cons h3 hq =>
        simp only [List.map_cons, List.cons.injEq] at e
        obtain ⟨e1, e2⟩ := e
        subst e1
        exact .cons (.tup h1 (.cons h3 (.cons h2 .nil))) (ih _ e2 hq)
  exact key hp us rfl hl
/-- x = [new curves]; y = repr(x); for z in x: z[0].append('late') -/
theorem hasS_made {tr : TA} {rest : TS} {nn kk : Nat} (hmk : HasMk C c1 tr Γ us) (hz : us.length ≤ 100) (hcs : ∀ u ∈ us, u.1.length ≤ 1000) (hs : Shw nn kk (mkD us)) (hnn : nn ≤ 16000) (hkk : kk ≤ 20) (hn : n < Γ.length) (hm : m < Γ.length) (hnj : n ≠ j)
    (hr : HasS C c2 rest (((Γ.set n none).set j (some (tyD C (.str (mkD us).shown)))).set m none) [] B R) :
    HasS C (c1 + c2) (tSeq (tAsg (tLst tr) (gName n)) (tSeq (tAsg (tCB (rRepr C.K) (tCons (tVar n) tNil)) (gName j)) (tSeq (tFor (iSeq C.K (tVar n)) (gName m) (tDrop (tBM C.K "list" rAppend (tOp (rIx C.K) (tVar m) (tC (.int 0))) (tCons (tC (.str "late")) tNil)))) rest))) Γ [] B R := fun M0 H0 N k σ H D a q r => by
  refine hmk M0 H0 N (k + c2) σ H [] _ (a.le (by omega)) fun ps ls H1 hls a1 hpu => ?_
  have hpl : ps.length = us.length := by
    have : ∀ {ps ls : List Addr} {ss : List PyData}, PU C (hide ((ow ls us []).map (·.1) ++ M0) H1) ps ls ss → True := fun _ => trivial
    have key : ∀ {G : Hp} {ps ls : List Addr} {ss : List PyData}, PU C G ps ls ss → ps.length = ls.length := by
      intro G ps ls ss h
      induction h with
      | nil => rfl
      | cons _ _ _ ih => simp [ih]
    rw [key hpu, hls]
  refine ⟨small_line (by rw [List.length_map]; omega), fun F hF => ?_⟩
  generalize hA : ow ls us [] = A' at a1 hpu
  have o1 := a1.ok.new (o := .lst (ps.map V.ref)) hF
  have g1 : go C H1 (upd H1 F (.lst (ps.map V.ref))) := go.new hF
  have hFm := a1.ok.out hF
  have hpu1 := hpu.ext (g1.k a1.ok)
  have hF1 : hide (A'.map (·.1) ++ M0) (upd H1 F (.lst (ps.map V.ref))) F = some (.lst (ps.map V.ref)) := by rw [hide_out hFm]; exact upd_same
  have a2 := a1.gos g1 o1
  generalize upd H1 F (.lst (ps.map V.ref)) = H2 at a2 hpu1 hF1
  have xx : ExtN (hide (A'.map (·.1) ++ M0) H2) (hide M0 H2) := ext_more fun b hb => List.mem_append_right _ hb
  have dq : Dq C (hide M0 H2) (.ref F) (mkD us) := by
    refine pu_dq (ps := ps) (ls := ls) (xx _ _ hF1 fun ps z => by cases z) (hpu1.ext xx) ?_
    have h0 := ow_pair (ls := ls) (us := us) (A := []) hls
    rw [hA] at h0
    have key : ∀ {ls : List Addr} {us : List Mku}, Paired (fun l (u : Mku) => (l, u.1) ∈ A') ls us → Paired (fun l (u : Mku) => Dq C (hide M0 H2) (.ref l) (.list u.1)) ls us := by
      intro ls us h
      induction h with
      | nil => exact .nil
      | cons h _ ih => exact .cons (own_dq a2 h) ih
    exact key h0
  have hlen : n < σ.length := by rw [← a.sat.1]; exact hn
  have e1 : (σ.set n (some (V.ref F)))[n]? = some (some (.ref F)) := List.getElem?_set_self hlen
  -- repr
  refine ⟨_, e1, F, mkD us, rfl, (dq.ext ext_sub).dp hs.nd, hs.sh, hs.hd, Nat.le_trans hs.dp hkk, hs.len hnn, ?_⟩
  -- the loop
  have e2 : ((σ.set n (some (V.ref F))).set j (some (V.str (mkD us).shown)))[n]? = some (some (.ref F)) := by rw [List.getElem?_set_ne (Ne.symm hnj)]; exact e1
  refine ⟨_, e2, F, rfl, .inl ⟨⟨_, sqL_of (hide_some hF1).2⟩, ?_⟩⟩
  generalize hΓ : (((Γ.set n none).set j (some (tyD C (.str (mkD us).shown)))).set m none) = Γ3 at hr
  have s3 : ∀ x, Sat Γ3 (((σ.set n (some (V.ref F))).set j (some (V.str (mkD us).shown))).set m x) (hide (A'.map (·.1) ++ M0) H2) := fun x => by
    rw [← hΓ]
    exact ((a2.sat.forget (x := some (V.ref F))).set (τ := tyD C (.str (mkD us).shown)) (.str _)).forget
  refine for_it (walk_list (K := C.K) (a := F) (xs := ps.map V.ref)) (fun i σ' H' => ∃ A'', A''.map (·.1) = A'.map (·.1) ∧ (∀ p ∈ A'', p.2.length ≤ 1000 + i) ∧ (∃ x, σ' = ((σ.set n (some (V.ref F))).set j (some (V.str (mkD us).shown))).set m x) ∧ At0 C (k + c2) M0 H0 (hide (A'.map (·.1) ++ M0) H2) A'' Γ3 σ' H') ?_ ?_ ?_ ?_
  · refine ⟨A', rfl, fun p hp => ?_, ⟨((σ.set n (some (V.ref F))).set j (some (V.str (mkD us).shown)))[m]?.getD none, ?_⟩, ?_⟩
    · rw [← hA] at hp
      rcases ow_of hp with h | ⟨u, h1, h2⟩
      · cases h
      · rw [h2]; exact hcs u h1
    · apply List.ext_getElem?
      intro i
      by_cases z : m = i
      · subst z
        rcases Nat.lt_or_ge m ((σ.set n (some (V.ref F))).set j (some (V.str (mkD us).shown))).length with h | h
        · rw [List.getElem?_set_self h, List.getElem?_eq_getElem h]; rfl
        · rw [List.getElem?_eq_none h, List.getElem?_eq_none (by simpa using h)]
      · rw [List.getElem?_set_ne z]
    · refine ⟨a2.ok, a2.ok0, a2.gone, ExtN.refl _, a2.own, a2.nd, ?_⟩
      rw [← hΓ]
      have := ((a2.sat.forget (i := n) (x := some (V.ref F))).set (i := j) (τ := tyD C (.str (mkD us).shown)) (v := .str (mkD us).shown) (.str _))
      refine ⟨by simpa using this.1, fun i τ e => ?_⟩
      by_cases z : m = i
      · subst z
        rcases Nat.lt_or_ge m ((Γ.set n none).set j (some (tyD C (.str (mkD us).shown)))).length with h | h
        · rw [List.getElem?_set_self h] at e; cases e
        · rw [List.getElem?_eq_none (by simpa using h)] at e; cases e
      · rw [List.getElem?_set_ne z] at e
        exact this.2 i τ e
  · rintro i σ' H' hi ⟨A'', eA, _, _, a3⟩
    exact sqL_of (hide_some (a3.kept _ _ hF1 fun ps z => by cases z)).2
  · rintro i x σ' H' H'' hi ⟨A'', eA, hA2, ⟨x0, eσ⟩, a3⟩ ⟨eH, ex⟩
    subst eH
    obtain ⟨p, l, sv, e3, hl, hp⟩ := (hpu1.ext a3.kept).get ex
    subst e3
    rw [eA] at hp
    have hσ : m < σ'.length ∨ ¬ m < σ'.length := by omega
    obtain ⟨ds, hd⟩ : ∃ ds, (l, ds) ∈ A'' := by
      have h0 := ow_pair (ls := ls) (us := us) (A := []) hls
      rw [hA] at h0
      have key : ∀ {ls : List Addr} {us : List Mku}, Paired (fun l (u : Mku) => (l, u.1) ∈ A') ls us → l ∈ ls → ∃ ds, (l, ds) ∈ A' := by
        intro ls us h
        induction h with
        | nil => intro h; cases h
        | cons h _ ih =>
          intro hm
          rcases List.mem_cons.mp hm with e | e
          · exact ⟨_, by rw [e]; exact h⟩
          · exact ih e
      obtain ⟨ds, h1⟩ := key h0 hl
      have : l ∈ A''.map (·.1) := by rw [eA]; exact List.mem_map.mpr ⟨_, h1, rfl⟩
      obtain ⟨⟨l', ds'⟩, h2, h3⟩ := List.mem_map.mp this
      exact ⟨ds', by rw [← h3]; exact h2⟩
    obtain ⟨w1, w2, xs, w3, w4⟩ := a3.own _ hd
    have e4 : (σ'.set m (some (V.ref p)))[m]? = some (some (.ref p)) := List.getElem?_set_self (by rw [← a3.sat.1, ← hΓ]; simpa using hm)
    have hp2 := (hide_some hp).2
    refine ⟨_, e4, .inr (.inl ⟨p, _, 0, .ref l, rfl, rfl, sqT_of hp2, rfl, .inl ⟨rfl, _, sqL_of w3⟩, l, xs, .str "late", rfl, rfl, w3, ?_, ?_⟩)⟩
    · rw [dA_len w4]
      have := hA2 _ hd
      have h2 : ps.length ≤ 100 := by omega
      have hi : i < (ps.map V.ref).length := hi
      rw [List.length_map] at hi
      exact Nat.lt_of_lt_of_le (show ds.length < 100000 by simp only at this; omega) (small_line (Nat.le_refl _))
    · have hm3 : Γ3.set m none = Γ3 := by rw [← hΓ, List.set_set]
      have a4 : At0 C (k + c2) M0 H0 (hide (A'.map (·.1) ++ M0) H2) A'' Γ3 (σ'.set m (some (.ref p))) H'' := ⟨a3.ok, a3.ok0, a3.gone, a3.kept, a3.own, a3.nd, by
        have := a3.sat.forget (i := m) (x := some (.ref p))
        rwa [hm3] at this⟩
      refine ⟨A''.map fun q => if q.1 = l then (l, ds ++ [.str "late"]) else q, ?_, ?_, ⟨some (.ref p), by rw [eσ, List.set_set]⟩, own_put a4 hd w3 (dA_app w4 (dA_one (.str _))) ?_ ?_⟩
      · rw [← eA, List.map_map]
        refine List.map_congr_left fun q _ => ?_
        show (if q.1 = l then (l, ds ++ [PyData.str "late"]) else q).1 = q.1
        split
        · rename_i z; exact z.symm
        · rfl
      · intro q hq
        obtain ⟨q', h1, h2⟩ := List.mem_map.mp hq
        have h3 := hA2 _ h1
        have h4 := hA2 _ hd
        rw [← h2]
        split
        · simp only [List.length_append, List.length_singleton] at h4 ⊢; omega
        · omega
      · rw [List.map_map]
        refine List.map_congr_left fun q _ => ?_
        show (if q.1 = l then (l, ds ++ [PyData.str "late"]) else q).1 = q.1
        split
        · rename_i z; exact z.symm
        · rfl
      · intro q hq
        obtain ⟨q', h1, h2⟩ := List.mem_map.mp hq
        rw [← h2]
        split
        · exact .inl rfl
        · rename_i z; exact .inr ⟨z, h1⟩
  · rintro σ' H' ⟨A'', eA, _, _, a3⟩
    exact hr M0 H0 N k σ' H' D ((own_all a3).reN a2.kept) q r
end
/-- f(..)[0].append('late') -/
theorem hasS_late {C : Cf} {Γ : Cxt} {c : Nat} {A : Own} {B : Post} {R : Res} {F : List PyData → Out → Prop} {nn : Nat} {E : XK} {tr : TA} {ds : List PyData} {cs : List PyData} {s : PyData} (ha : HasA C c tr Γ (fun l => l = ds)) (hl : ds.length = nn) (hF : F ds (.ok (rU cs s))) (hcs : cs.length < 100000) (hb : B Γ A) :
    HasS C (c + 0) (tDrop (tBM C.K "list" rAppend (tOp (rIx C.K) (tCall (spE C.T C.K 0 F nn) [] E tr) (tC (.int 0))) (tCons (tC (.str "late")) tNil))) Γ A B R := fun M0 H0 N k σ H D a q r =>
  ha _ k σ H _ a.ok a.sat fun xs H1 es g1 o1 e p => by
    subst e
    have a1 := a.gos g1 o1
    refine ⟨C.S, _, k, es, _, by rw [List.append_nil, dA_len p, hl], o1, by rw [List.append_nil]; exact p, hF, fun v H2 g2 o2 hu => ?_⟩
    obtain ⟨p0, l, xs2, sv, ev, n1, nm, hx, hr1, hp0, hsv⟩ := hu
    subst ev
    have a2 := own_fresh a1 g2 o2 n1 nm hx hr1
    refine .inr (.inl ⟨p0, _, 0, .ref l, rfl, rfl, sqT_of (hide_some hp0).2, rfl, .inl ⟨rfl, _, sqL_of hx⟩, l, xs2, .str "late", rfl, rfl, hx, ?_, ?_⟩)
    · rw [dA_len hr1]; exact Nat.lt_of_lt_of_le hcs (small_line (Nat.le_refl _))
    · have a3 : At0 C k M0 H0 N ((l, cs ++ [.str "late"]) :: A) Γ σ (upd H2 l (.lst (xs2 ++ [.str "late"]))) := own_put a2 (List.mem_cons_self ..) hx (dA_app hr1 (dA_one (.str _))) rfl fun p hp => by
        rcases List.mem_cons.mp hp with e | e
        · exact .inl e
        · refine .inr ⟨fun z => ?_, List.mem_cons_of_mem _ e⟩
          have nd := List.nodup_cons.mp a2.nd
          exact nd.1 (by rw [← z]; exact List.mem_map.mpr ⟨p, e, rfl⟩)
      refine q _ _ _ _ hb ?_
      -- the changed list is let go
      have sub : ∀ b ∈ (A.map (·.1) ++ M0), b ∈ (((l, cs ++ [PyData.str "late"]) :: A).map (·.1) ++ M0) := fun b hb => List.mem_cons_of_mem _ hb
      have x := ext_more (H := upd H2 l (.lst (xs2 ++ [V.str "late"]))) sub
      exact ⟨⟨fun b hb => a3.ok.dom b (sub b hb), a3.ok.tabs, fun b hb => List.mem_append_right _ (a3.ok0.sub b hb), a3.ok.str⟩, a3.ok0, a3.gone, a3.kept.trans x, fun p hp => by
        obtain ⟨g1, g2, ys, g3, g4⟩ := a3.own p (List.mem_cons_of_mem _ hp)
        exact ⟨g1, g2, ys, g3, g4.ext x⟩, (List.nodup_cons.mp a3.nd).2, a3.sat.ext x⟩
/-- a call by keywords alone that gives a new curve -/
theorem has_callKU {C : Cf} {Γ : Cxt} {c1 : Nat} {F : List PyData → Out → Prop} {nn : Nat} {E : XK} {tr : TA} {ds ds' : List PyData} {cs : List PyData} {s : PyData} {gV : List V → List V → List V} (ha : HasA C c1 tr Γ (fun l => l = ds)) (hg : ∀ H vs, DqAll C H vs ds → DqAll C H (gV [] vs) ds') (hl : ds'.length = nn) (hF : F ds' (.ok (rU cs s))) :
    HasE C (c1 + 0) (tCallK (spE C.T C.K 0 F nn) gV E tNil tr) Γ (tyD C (.tuple [.list cs, s])) := fun M k σ H Q o st q =>
  ha M k σ H _ o st fun xs H1 es g1 o1 e p => by
    subst e
    have p' := hg _ _ p
    exact ⟨C.S, M, k, ds', _, by rw [dA_len p', hl], o1, p', hF, fun v H' g2 o2 p2 => q v H' (g1.trans g2) o2 (rU_dq p2)⟩
end Q6
end
section
set_option maxHeartbeats 4000000
set_option exponentiation.threshold 2000000
/-! Lists of curves: added, the least, the greatest. -/
namespace Q6
open PySem PySem.Spec PyProof.Rows L2 LamX RZ Qk
/-- nothing is let out -/
theorem passL {X : Cx} {P : Program} {w : World} : Passes (L2.CX P w) X (fun _ _ _ => False) := fun pins σ H s e s' I c => by
  obtain ⟨_, _, _, _, _, _, _, _, _, _, _, _, z⟩ := c
  exact z.elim
/-- one keyword -/
def g1K {α : Type} (us ws : List α) : List α := match us, ws with
  | [], [a] => [a]
  | _, _ => []
theorem g1K_rel {vs : List V} {us : List Value} {zs : List V} {ws : List Value} (h1 : Vals vs us) (h2 : Vals zs ws) : Vals (g1K vs zs) (g1K us ws) := by
  cases h1 with
  | nil =>
    cases h2 with
    | nil => exact .nil
    | cons a h2 =>
      cases h2 with
      | nil => exact .cons a .nil
      | cons b h2 => exact .nil
  | cons a h1 => exact .nil
theorem g1K_dq {C : Cf} {H : Hp} {vs : List V} {d : PyData} (h : DqAll C H vs [d]) : DqAll C H (g1K [] vs) [d] := by
  cases h with
  | cons h1 h => cases h; exact .cons h1 .nil
theorem kb_one {K : PySem.W.Frag} {mg : Str → Option Value} {x p : Str} {i : Nat} (F : At K mg x i) (hb : ∀ (kV doc pm : Value) (an : Option Addr) (cdv ct : Value) (w : Value), bindArgs (PySem.W.fnOf x x (defArgs (top i)) (defBody (top i)) (defScope (top i)) .none kV doc pm an cdv ct) ⟨[], [(p, w)]⟩ = pure [(p, w)]) {fd : FuncData} (h : HasFd K (He.ga K x) fd) : KBinds K fd [p] [p] g1K g1K :=
  kbinds F (fun kV doc pm an cdv ct us ws hl => by
    match us, ws, hl with
    | [], [a], _ => exact hb kV doc pm an cdv ct a
    | [], [], hl => cases hl
    | [], _ :: _ :: _, hl => cases hl
    | _ :: _, _, hl => cases hl) g1K_rel h
theorem kb_added {K : PySem.W.Frag} {mg : Str → Option Value} (F : At K mg "added" 46) {fd : FuncData} (h : HasFd K (He.ga K "added") fd) : KBinds K fd P_added ["curves"] g1K g1K := kb_one F (fun _ _ _ _ _ _ _ => rfl) h
theorem kb_least_of {K : PySem.W.Frag} {mg : Str → Option Value} (F : At K mg "least_of" 47) {fd : FuncData} (h : HasFd K (He.ga K "least_of") fd) : KBinds K fd P_least_of ["curves"] g1K g1K := kb_one F (fun _ _ _ _ _ _ _ => rfl) h
theorem kb_greatest_of {K : PySem.W.Frag} {mg : Str → Option Value} (F : At K mg "greatest_of" 48) {fd : FuncData} (h : HasFd K (He.ga K "greatest_of") fd) : KBinds K fd P_greatest_of ["curves"] g1K g1K := kb_one F (fun _ _ _ _ _ _ _ => rfl) h
/-- what _law_total, _law_least ask of fractions -/
def LT (l : List Rat) : Prop := (∀ q ∈ l, Sz 4000 q) ∧ ∀ pre suf, l = pre ++ suf → Sz 4000 (total pre)
def LS (l : List Rat) : Prop := l ≠ [] ∧ ∀ q ∈ l, Sz 4000 q
def mku (u : Cur) : Mku := (u.1.map encK, encF u.2)
/-- the sizes that the lists' walk asks -/
structure ListsOk (us : List Cur) : Prop where
  told : ∀ u ∈ us, Told u
  sum : SumOk us
  slo : LT (us.map (·.2))
  ags : AgOk LT total (summed us) us
  fold : us ≠ [] → ∀ w, FoldOk w us ∧ AgOk LS (selL w) (foldC w us) us
  slw : us ≠ [] → LS (us.map (·.2))
  shw : us ≠ [] → Shw 16000 10 (mkD [mku (foldC true us), mku (foldC false us), mku (summed us)]) ∧ ∀ v ∈ [foldC true us, foldC false us, summed us], v.1.length ≤ 1000
theorem eqOk_encUs (us : List Cur) : eqOk (.list (us.map encU)) = true := by
  have h : ∀ us : List Cur, noDictAll (us.map encU) = true ∧ PyData.canLayAll0 (us.map encU) = true ∧ PyData.depthAll (us.map encU) ≤ 64 - 1 := by
    intro us
    induction us with
    | nil => exact ⟨rfl, rfl, Nat.zero_le _⟩
    | cons u us ih =>
      obtain ⟨h1, h2, h3⟩ := ih
      have h4 := eqOk_encU u
      have h5 := eqOk_1 h4
      have h6 := eqOk_2 h4
      have h8 : PyData.canLay0 (encU u) = true := (Bool.and_eq_true_iff.mp h6).1
      have h9 : PyData.depth (encU u) ≤ 63 := by
        have := depth_encKs u.1
        simp [encU, encC, encF, PyData.depth, PyData.depthAll]; omega
      refine ⟨?_, ?_, ?_⟩
      · show (noDict (encU u) && noDictAll (us.map encU)) = true
        rw [h5, h1]; rfl
      · show (PyData.canLay0 (encU u) && PyData.canLayAll0 (us.map encU)) = true
        rw [h8, h2]; rfl
      · rw [List.map_cons, PyData.depthAll]; omega
  obtain ⟨h1, h2, h3⟩ := h us
  unfold eqOk SeqAt.shaped
  simp only [noDict, PyData.canLay0, PyData.depth, h1, h2, Bool.true_and]
  exact decide_eq_true (by omega)
section
variable {P : Program} {w : World} {K : PySem.W.Frag} {mg : Str → Option Value} {base : Heap} {TT : List (Addr × Str)}
def F_l_lists_right (ds : List PyData) (d : PyData) : Prop := ∃ us x ps, ds = [.list (us.map encU), x] ∧ Givens x ps ∧ ps.map tld = us ∧ ListsOk us ∧ d = .bool true
abbrev N_l_lists_right : List Str := ["_law_curves", "_law_given", "_law_slopes", "_law_found", "_law_was", "_law_one", "_law_curve"]
abbrev P_l_lists_right : List Str := ["_law_curves", "_law_given"]
theorem sc_l_lists_right : FnScope N_l_lists_right P_l_lists_right (defScope (top 88)) := ⟨rfl, rfl, rfl, by decide +kernel, rfl, by decide +kernel, by decide +kernel⟩
theorem ok_l_lists_right (T : Txt mg) (O : OddOk K) (D_l_agrees_total : Def P w K mg base CX0 7 "_law_agrees" P_l_agrees (spAg TT K "_law_total" LT total)) (D_l_agrees_least : Def P w K mg base CX0 7 "_law_agrees" P_l_agrees (spAg TT K "_law_least" LS (selL true))) (D_l_agrees_greatest : Def P w K mg base CX0 7 "_law_agrees" P_l_agrees (spAg TT K "_law_greatest" LS (selL false)))
    (D_l_greatest : Def P w K mg base CX0 2 "_law_greatest" P_l_greatest (spD TT K F_l_greatest 1)) (D_l_least : Def P w K mg base CX0 2 "_law_least" P_l_least (spD TT K F_l_least 1)) (D_l_total : Def P w K mg base CX0 4 "_law_total" P_l_total (spD TT K F_l_total 1))
    (D_l_same : Def P w K mg base CX0 8 "_law_same" P_l_same (spR TT K 0 (F_l_same 6) 2)) (D_least_of : Def P w K mg base (L2.CX P w) 10 "least_of" P_least_of (spE TT K 0 F_least_of 1)) (D_greatest_of : Def P w K mg base (L2.CX P w) 10 "greatest_of" P_greatest_of (spE TT K 0 F_greatest_of 1)) (D_added : Def P w K mg base (L2.CX P w) 8 "added" P_added (spE TT K 0 F_added 1))
    (F_least_of' : At K mg "least_of" 47) (F_greatest_of' : At K mg "greatest_of" 48) (F_added' : At K mg "added" 46) (F : At K mg "_law_lists_right" 88) : DefG P w K mg base 11 "_law_lists_right" P_l_lists_right (spD TT K F_l_lists_right 2) := by
  have nd := sc_l_lists_right.nd
  have hu65 : ∀ {k A}, Room k A → A.units + 65 < cLine := fun r => by have := r.un; omega
  refine def_ofG F sc_l_lists_right (fun _ _ _ _ _ _ us hl => match us, hl with | [_, _], _ => rfl) (fun vs H Q E h => len_R h) (fun cdv A outer s H vs Q E hg hr h => ⟨_, (pss_cons (ps_setLc (own := [("_law_curve", 6)]) (g := (gName 6)) (tt := tYes) (te := (tOp (rIx K) (tVar 6) (tC (.int 1)))) (i := 2) rfl nd rfl rfl (sw_true rfl rfl rfl (by decide +kernel)) (pi_seq (pv 0)) (blkOk_by (N := N_l_lists_right) (sc := defScope (top 88)) (own := [("_law_curve", 6)]) (by decide +kernel)) (fun _ _ _ _ _ => (pg_name (i := 6) nd rfl (Or.inl rfl))) (fun _ _ _ _ _ => pts_nil) (fun _ _ _ _ _ => (pe_ix ix_seq (pv 6) pe_int (fun _ _ => rfl))))
    (pss_cons (ps_if (pt_not (pt_val (pe_callD D_l_agrees_total hr (by decide) rfl pass0 (pa_cons (pe_callD D_added hr (by decide) rfl passL (pa_cons (pv 1) pa_nil)) (pa_cons (pv 0) (pa_cons (pe_glob (v := .ref (He.ga K "_law_total")) rfl D_l_total.gm rfl) (pa_cons (pe_callD D_l_total hr (by decide) rfl pass0 (pa_cons (pv 2) pa_nil)) pa_nil))))))) (pss_one (ps_ret pe_bl)) pss_nil)
    (pss_cons (ps_if (pt_cmpR (op_eqD (Room.eq hr)) (pv 0) (pe_lst pa_nil) (nomark _)) (pss_cons (ps_expr (pe_bm PySem.F.plainAttrs_list PySem.F.slot_list_append PySem.F.type_list_append mt_append (pe_ix ix_seq (pe_callD D_added hr (by decide) rfl passL (pa_cons (pv 1) pa_nil)) pe_int (fun _ _ => rfl)) (pa_cons pe_str pa_nil)))
    (pss_one (ps_ret (pe_callD D_l_same hr (by decide) rfl pass0 (pa_cons (pe_callD D_added hr (by decide) rfl passL (pa_cons (pv 1) pa_nil)) (pa_cons (pe_tup (pa_cons (pe_lst (pa_cons (pe_tup (pa_cons (pe_tup (pa_cons pe_int (pa_cons pe_int pa_nil))) (pa_cons (pe_tup (pa_cons pe_int (pa_cons pe_int pa_nil))) pa_nil))) pa_nil)) (pa_cons (pe_tup (pa_cons pe_int (pa_cons pe_int pa_nil))) pa_nil))) pa_nil)))))) pss_nil)
    (pss_cons (ps_if (pt_not (pt_val (pe_callD D_l_agrees_least hr (by decide) rfl pass0 (pa_cons (pe_callD D_least_of hr (by decide) rfl passL (pa_cons (pv 1) pa_nil)) (pa_cons (pv 0) (pa_cons (pe_glob (v := .ref (He.ga K "_law_least")) rfl D_l_least.gm rfl) (pa_cons (pe_callD D_l_least hr (by decide) rfl pass0 (pa_cons (pv 2) pa_nil)) pa_nil))))))) (pss_one (ps_ret pe_bl)) pss_nil)
    (pss_cons (ps_set (i := 3) nd rfl (Or.inl rfl) (pe_lst (pa_cons (pe_callD D_least_of hr (by decide) rfl passL (pa_cons (pv 1) pa_nil)) (pa_cons (pe_callD D_greatest_of hr (by decide) rfl passL (pa_cons (pv 1) pa_nil)) (pa_cons (pe_callD D_added hr (by decide) rfl passL (pa_cons (pv 1) pa_nil)) pa_nil)))))
    (pss_cons (ps_set (i := 4) nd rfl (Or.inl rfl) (pe_callB (call_repr hg (Room.eq hr)) (by rfl) T.fr_repr bb_repr (pa_cons (pv 3) pa_nil)))
    (pss_cons (ps_for PassesOwn.never rfl (pi_seq (pv 3)) (pg_name (i := 5) nd rfl (Or.inl rfl)) (pss_one (ps_expr (pe_bm PySem.F.plainAttrs_list PySem.F.slot_list_append PySem.F.type_list_append mt_append (pe_ix ix_seq (pv 5) pe_int (fun _ _ => rfl)) (pa_cons pe_str pa_nil)))))
    (pss_cons (ps_if (pt_cmpR L2.op_ne (pe_callB (call_repr hg (Room.eq hr)) (by rfl) T.fr_repr bb_repr (pa_cons (pe_lst (pa_cons (pe_callK0 D_least_of hr (by decide) rfl (fun fd h => kb_least_of F_least_of' h) passL (pk_cons (pv 1) pk_nil)) (pa_cons (pe_callK0 D_greatest_of hr (by decide) rfl (fun fd h => kb_greatest_of F_greatest_of' h) passL (pk_cons (pv 1) pk_nil)) (pa_cons (pe_callK0 D_added hr (by decide) rfl (fun fd h => kb_added F_added' h) passL (pk_cons (pv 1) pk_nil)) pa_nil)))) pa_nil)) (pv 4) (nomark _)) (pss_one (ps_ret pe_bl)) pss_nil)
    (pss_one (ps_ret (pe_callD D_l_agrees_greatest hr (by decide) rfl pass0 (pa_cons (pe_callD D_greatest_of hr (by decide) rfl passL (pa_cons (pv 1) pa_nil)) (pa_cons (pv 0) (pa_cons (pe_glob (v := .ref (He.ga K "_law_greatest")) rfl D_l_greatest.gm rfl) (pa_cons (pe_callD D_l_greatest hr (by decide) rfl pass0 (pa_cons (pv 2) pa_nil)) pa_nil))))))))))))))), read_D ?_ h⟩)
  rintro S ds d ⟨us, x, ps, rfl, hg1, hps, ok, rfl⟩ _
  have hadd : F_added [x] (.ok (rU ((summed us).1.map encK) (encF (summed us).2))) := .inl ⟨x, ps, rfl, hg1, by rw [hps]; exact ok.sum, by rw [hps]⟩
  have hfold : us ≠ [] → ∀ w, F_fold w [x] (.ok (rU ((foldC w us).1.map encK) (encF (foldC w us).2))) := fun hne w => .inl ⟨x, ps, rfl, hg1, fun z => hne (by rw [← hps, z]; rfl), by rw [hps]; exact (ok.fold hne w).1, by rw [hps]⟩
  have hl := ok.ags.len
  have hsl : (us.map fun u => encF u.2) = (us.map (·.2)).map encF := by rw [List.map_map]; rfl
  have hfl : ∀ hne : us ≠ [], ∀ w, (foldC w us).2 = selL w (us.map (·.2)) := fun hne w => (foldC_ok ok.told hne).2.1
  refine hasS_0 (c := 0 + us.length * (0 + 0) + 0) (hasS_seq_set (has_map us encU (fun u => encF u.2) (i_seq (has_var rfl) rfl) (by omega) fun u hu => ⟨_, _, g_name, by simp, has_ix (has_var rfl) has_int rfl rfl⟩) ?_) (by simp)
  rw [hsl]
  refine hasS_0 (hasS_ifret (b := false) (c2 := 0) (c3 := 0) (hast_conv (hast_not (hast_B (has_agrees (f := summed us) (has_callOU (has_cons (has_var rfl) has_nil) rfl hadd) (has_var rfl) (has_call (has_cons (has_var rfl) has_nil) rfl ⟨_, rfl, ok.slo.1, ok.slo.2, rfl⟩) ok.ags))) rfl) (fun z => by cases z) fun _ => ?_) rfl
  refine hasS_0 (hasS_seqif (b := decide (us = [])) (c2 := 0) (c3 := 0) (hast_conv (hast_test (has_eq (has_var rfl) (has_lst has_nil (by simp)) (eqOk_encUs us) eqOk_nil)) ?_) (fun hq => ?_) fun hq => hasS_seq_next ?_) rfl
  · cases us <;> rfl
  · have hq : us = [] := of_decide_eq_true hq
    subst hq
    refine hasS_seq_nvr (hasS_0 (hasS_seq (hasS_late (has_cons (has_var rfl) has_nil) rfl hadd (by have := (ok.ags.sz _ (List.mem_cons_self ..)).2; rw [List.length_map]; omega) to_here) (hasS_ret (has_callR (c2 := 0) (has_cons (has_callOU (has_cons (has_var rfl) has_nil) rfl hadd) (has_cons (has_tup (has_cons (has_lst (has_cons (has_tup (has_cons (has_tup (has_cons has_int (has_cons has_int has_nil)) (by simp)) (has_cons (has_tup (has_cons has_int (has_cons has_int has_nil)) (by simp)) has_nil)) (by simp)) has_nil) (by simp)) (has_cons (has_tup (has_cons has_int (has_cons has_int has_nil)) (by simp)) has_nil)) (by simp)) has_nil)) fun l e => ?_))) rfl)
    rw [summed_nil] at e
    refine ⟨by rw [e]; rfl, rD (.bool true), ⟨_, e, ?_, rfl⟩, fun _ _ _ _ h => h⟩
    have i2 : ∀ n, Sm (n + 1) (.tuple [.int 0, .int 1]) := fun n => .inr (.inr (.inr (.inr ⟨_, rfl, by simp, fun e he => by
      simp only [List.mem_cons, List.not_mem_nil, or_false] at he
      cases n <;> rcases he with rfl | rfl <;> exact .inl rfl⟩)))
    refine .inr (.inr (.inr (.inr ⟨_, rfl, by simp, fun e he => ?_⟩)))
    simp only [List.mem_cons, List.not_mem_nil, or_false] at he
    rcases he with rfl | rfl
    · refine .inr (.inr (.inr (.inr ⟨_, rfl, by simp, fun e he => ?_⟩)))
      simp only [List.map_cons, List.map_nil, List.mem_cons, List.not_mem_nil, or_false] at he
      subst he
      refine .inr (.inr (.inr (.inr ⟨_, rfl, by simp, fun e he => ?_⟩)))
      simp only [List.mem_cons, List.not_mem_nil, or_false] at he
      rcases he with rfl | rfl <;> exact i2 2
    · exact i2 4
  · have hne : us ≠ [] := of_decide_eq_false hq
    have hT := hfold hne true
    have hF := hfold hne false
    obtain ⟨sh, shl⟩ := ok.shw hne
    refine hasS_0 (hasS_ifret (b := false) (c2 := 0) (c3 := 0) (hast_conv (hast_not (hast_B (has_agrees (f := foldC true us) (has_callOU (has_cons (has_var rfl) has_nil) rfl hT) (has_var rfl) (has_conv (has_call (has_cons (has_var rfl) has_nil) rfl ⟨_, rfl, (ok.slw hne).1, (ok.slw hne).2, rfl⟩) (by rw [hfl hne])) (ok.fold hne true).2))) rfl) (fun z => by cases z) fun _ => ?_) rfl
    have shl' : ∀ u ∈ [mku (foldC true us), mku (foldC false us), mku (summed us)], u.1.length ≤ 1000 := fun u hu => by
      simp only [List.mem_cons, List.not_mem_nil, or_false] at hu
      rcases hu with rfl | rfl | rfl
      · exact Nat.le_trans (Nat.le_of_eq (List.length_map ..)) (shl _ (by simp))
      · exact Nat.le_trans (Nat.le_of_eq (List.length_map ..)) (shl _ (by simp))
      · exact Nat.le_trans (Nat.le_of_eq (List.length_map ..)) (shl _ (by simp))
    refine hasS_0 (hasS_made (n := 3) (j := 4) (m := 5) (us := [mku (foldC true us), mku (foldC false us), mku (summed us)]) (c2 := 0) (mk_cons (has_cons (has_var rfl) has_nil) rfl hT (mk_cons (has_cons (has_var rfl) has_nil) rfl hF (mk_cons (has_cons (has_var rfl) has_nil) rfl hadd mk_nil))) (by simp) shl' sh (Nat.le_refl _) (by decide) (show 3 < 7 by decide) (show 5 < 7 by decide) (by decide) ?_) rfl
    refine hasS_0 (hasS_ifret (b := false) (c2 := 0) (c3 := 0) (hast_conv (hast_test (has_neS (has_repr (d := mkD [mku (foldC true us), mku (foldC false us), mku (summed us)]) (has_lst (has_cons (has_callKU (has_cons (has_var rfl) has_nil) (fun H vs h => g1K_dq h) rfl hT) (has_cons (has_callKU (has_cons (has_var rfl) has_nil) (fun H vs h => g1K_dq h) rfl hF) (has_cons (has_callKU (has_cons (has_var rfl) has_nil) (fun H vs h => g1K_dq h) rfl hadd) has_nil))) (by simp)) rfl sh (Nat.le_refl _) (by decide)) (has_var rfl))) (by simp)) (fun z => by cases z) fun _ => ?_) rfl
    exact hasS_0 (hasS_ret (has_agrees (f := foldC false us) (has_callOU (has_cons (has_var rfl) has_nil) rfl hF) (has_var rfl) (has_conv (has_call (has_cons (has_var rfl) has_nil) rfl ⟨_, rfl, (ok.slw hne).1, (ok.slw hne).2, rfl⟩) (by rw [hfl hne])) (ok.fold hne false).2)) rfl
end
end Q6
end
section
set_option maxHeartbeats 4000000
/-! Several clauses 'except X as n'. -/
namespace Q6
open PySem PySem.Spec PyProof.Rows L2 LamX
abbrev SuT := Addr → Value → Option Addr → TS
/-- the end behind a suite: slot i is empty -/
abbrev gone (i : Nat) (D : Ends) : Ends := { nx := fun a b => D.nx (a.set i none) b, rt := D.rt, bk := fun a b => D.bk (a.set i none) b, ct := fun a b => D.ct (a.set i none) b }
/-- what the clauses wish -/
def wAsN (K : PySem.W.Frag) (i : Nat) (Wo : WX) (D : Ends) : List (Value × SuT) → WX
  | [] => Wo
  | q :: r => fun cls d σ H => ∃ b, PySem.W.exmOne K cls q.1 = some b ∧ (b = true → ∀ x, H x = none → q.2 x cls d (gone i D) (σ.set i (some (.ref x))) H) ∧ (b = false → wAsN K i Wo D r cls d σ H)
/-- the clauses' texts and their readings -/
inductive AsOk (X : Cx) (n : Str) : List ExceptHandler → List (Value × SuT) → Prop
  | nil : AsOk X n [] []
  | cons {y : Str} {c : Value} {ts : SuT} {b0 : Stmt} {su : List Stmt} {p1 p2 : Pos} {hl : List ExceptHandler} {l : List (Value × SuT)} (hc : Names X y c)
      (hsu : ∀ (a : Addr) (oe : Obj) (cls : Value) (d : Option Addr) (pn : List (Addr × Obj)), Zc cls d oe → (∃ vs, oe.data = .fields vs) → PSs (X.suite a ((a, oe) :: pn)) (b0 :: su) (ts a cls d)) (r : AsOk X n hl l) :
      AsOk X n (.ExceptHandler (some (.Name y p1)) (some n) (b0 :: su) p2 :: hl) ((c, ts) :: l)
section
variable {X : Cx} {n : Str} {i : Nat} {body : List Stmt} {h0 : ExceptHandler} {hl : List ExceptHandler} {l : List (Value × SuT)} {pos : Pos} {tb : WX → TS} {Wo : WX}
/-- the clauses, one after another, at an exception that has come down -/
theorem as_run (hs : X.stack = X.env :: X.outer) (hf : X.env.frame = some X.env.locals) (hN : X.N.Nodup) (hi : X.N[i]? = some n) (hln : X.env.kindOf n = some .local) (tk : Takes X Wo) {pins : List (Addr × Obj)} {D : Ends} {a : Addr} {B : Heap} {sI s' : Shared} {σ : L2.St} {H : Hp} {cls : Value} {d : Option Addr}
    (J : Inv X pins σ H sI) (nb : ∀ b o, sI.heap.get? b = some o → b ∉ frs X.stack → B.get? b = some o) (na : H a = none) (os : s'.os = sI.os) (ag : AllBare s'.gens) {h3 : Heap} (fl : HandSPX.FlyingZ B (X.env :: X.outer) a (Zc cls d) h3) (up : sI.heap.UpToSlots h3) (S : ∀ {oe vs}, h3.get? a = some oe → oe.data = .fields vs → Inv (X.suite a ((a, oe) :: (X.pn ++ pins))) [] σ H { s' with heap := h3 })
    (S2 : ∀ {h4 : Heap} {oe vs}, HandSPX.FlyingZ B (X.env :: X.outer) a (Zc cls d) h4 → h3.UpToSlots h4 → h4.get? a = some oe → oe.data = .fields vs → Inv (X.suite a ((a, oe) :: (X.pn ++ pins))) [] σ H { s' with heap := h4 }) :
    ∀ {hl : List ExceptHandler} {l : List (Value × SuT)}, AsOk X n hl l → wAsN X.K i Wo D l cls d σ H → wpAny (model X.prog X.w) X.A (handleBy (.ref a) X.env hl) (SP X pins D) X.xe { s' with heap := h3 } := by
  intro hl l hk
  have ok := J.ok
  obtain ⟨oe3, vs3, he3, hz3, hd3⟩ := fl.there
  have S3 := S he3 hd3
  induction hk with
  | nil =>
    intro w
    refine wpAny_handleBy_nil ?_
    obtain ⟨_, _, _, oe, vs, T, _, _, he, _, hd, h1, _⟩ := id fl
    unfold PySem.passOn
    refine wpAny_bind (wpAny_field he hd h1 ?_)
    rw [if_neg (show ¬ ((Value.ref T == Value.none) = true) by simp)]
    have last : wpAny (model X.prog X.w) X.A (setFlight (.ref a) X.env.frame) (fun _ s5 => wpAny (model X.prog X.w) X.A (throw (.ref a) : Sem Flow) (SP X pins D) X.xe s5) X.xe { s' with heap := h3 } := by
      rw [hf]
      exact HandSPX.setFlight_upZ fl fun h5 hh5 up5 => wpAny_throw (tk _ _ ⟨a, B, sI, pins, σ, H, cls, d, rfl, J, nb, up.trans up5, .inr (.inr (by rw [hs]; exact hh5)), na, os, ag, w⟩)
    first
      | exact wpAny_bind (wpAny_pure (wpAny_bind last))
      | exact wpAny_bind last
  | @cons y c ts b0 su p1 p2 hl2 l2 hc hsu r ih =>
    intro w
    obtain ⟨b, hb1, yes, no⟩ := w
    refine wpAny_handleBy_cons (codeAny_handlers_test ?_) (by intro q; cases q)
    have ty : PySem.W.Looks (model X.prog X.w) h3 (typeOf (.ref a)) cls := fun A Q E s k q => wpAny_typeOf_ref (k _ _ he3) (by rw [hz3.1]; exact q)
    have look := PySem.W.exm_one (M := model X.prog X.w) (show X.K.In h3 from S3.kIn) ty hb1
    have test : ∀ {Q E : Value → Shared → Prop}, Q c { s' with heap := h3 } → wpAny (model X.prog X.w) (X.A.mark (some (.ref a))) (eval (.Name y p1) X.env) Q E { s' with heap := h3 } := fun {Q E} q => by
      obtain ⟨hg, hdb, hm | ⟨hm, hv, hnn⟩⟩ := hc
      · exact ld_glob (X := X.suite a ((a, oe3) :: (X.pn ++ pins))) S3 hg hm q hdb
      · exact ld_blt (X := X.suite a ((a, oe3) :: (X.pn ++ pins))) S3 hg hm hv q hnn hdb
    refine test (look.here ?_)
    cases b with
    | false => exact ih (no rfl)
    | true =>
      refine codeAny_handlers_suite_as (HandSPX.lands_againZ fl fun h4 fl4 up4 => ?_)
      obtain ⟨oe4, vs4, he4, hz4, hd4⟩ := fl4.there
      refine store_ok (X := X.suite a ((a, oe4) :: (X.pn ++ pins))) (v := .ref a) (S2 fl4 up4 he4 hd4) hN hi (.inl hln) rfl (fun s5 S5 => ?_) (.inr hln)
      have fin : ∀ {s6 : Shared} {σ6 : L2.St} {H6 : Hp} {Q : Shared → Prop}, Inv (X.suite a ((a, oe4) :: (X.pn ++ pins))) [] σ6 H6 s6 → (∀ s7, Inv X pins (σ6.set i none) H6 s7 → Q s7) → wpAny (model X.prog X.w) X.A (do bindName X.env n .none; unbindBehindTheSuite X.env n p2) (fun _ s7 => Q s7) X.xe s6 := fun S6 hq => gone_ok (S6.unsuite ok) hN hi hln hq
      refine wpAny_mono ((hsu a oe4 cls d (X.pn ++ pins) hz4 ⟨_, hd4⟩).run [] s5 _ H (gone i D) S5 (yes rfl a na)) (fun fl6 s6 h6 => ?_) (fun _ _ z => z.elim)
      cases fl6 with
      | ret u => obtain ⟨v6, _, _, S6, r6, q6⟩ := h6; exact fin S6 fun s7 J7 => ⟨v6, _, _, J7, r6, q6⟩
      | next => obtain ⟨_, _, S6, q6⟩ := h6; exact fin S6 fun s7 J7 => ⟨_, _, J7, q6⟩
      | brk => obtain ⟨_, _, S6, q6⟩ := h6; exact fin S6 fun s7 J7 => ⟨_, _, J7, q6⟩
      | cont => obtain ⟨_, _, S6, q6⟩ := h6; exact fin S6 fun s7 J7 => ⟨_, _, J7, q6⟩
theorem ps_try_asN (hs : X.stack = X.env :: X.outer) (hf : X.env.frame = some X.env.locals) (hN : X.N.Nodup) (hi : X.N[i]? = some n) (hln : X.env.kindOf n = some .local) (tk : Takes X Wo)
    (hb : ∀ (W : WX) (pn : List (Addr × Obj)) (xe : Value → Shared → Prop), Takes (X.tr pn xe) W → PSs (X.tr pn xe) body (tb W)) (hh : AsOk X n (h0 :: hl) l) : PS X (.Try body (h0 :: hl) [] [] pos) (fun D σ H => tb (wAsN X.K i Wo D l) D σ H) := by
  refine ⟨fun pins s σ H D I h => ?_⟩
  have ok := I.ok
  have hfr : X.A.frames = some (X.env :: X.outer) := ok.frames.trans (by rw [hs])
  refine wpAny_Try_except (wpAny_mono ((hb (wAsN X.K i Wo D l) (X.pn ++ pins) (fun e s1 => wpAny (model X.prog X.w) X.A (noteFrame e X.env) (fun _ s2 => wpAny (model X.prog X.w) X.A (setFlight e none) (fun _ s3 => wpAny (model X.prog X.w) X.A (handleBy e X.env (h0 :: hl)) (SP X pins D) X.xe s3) X.xe s2) X.xe s1) ?_).run [] s σ H D (I.toTry _) h) (fun fl s1 h1 => ?_) fun _ _ he => he)
  · rintro u s' ⟨a, B, sI, pins', σ', H', cls, d, rfl, J', nb, up, sky, na, os, ag, w⟩
    have J : Inv X pins σ' H' sI := J'.ofTry ok
    have sky2 : Sky B (X.env :: X.outer) a (Zc cls d) X.env.locals s'.heap := by rw [← hs]; exact sky
    show wpAny (model X.prog X.w) X.A (noteFrame (.ref a) X.env) _ _ _
    refine Sky.land Zc.steady hfr hf sky2 fun h3 fl3 up3 => ?_
    have nfr : ∀ {h4 : Heap}, HandSPX.FlyingZ B (X.env :: X.outer) a (Zc cls d) h4 → a ∉ frs (X.env :: X.outer) := fun {h4} f hm => by
      obtain ⟨oe, vs, he, _, hd⟩ := f.there
      obtain ⟨_, o2, e2, hnf⟩ := f.2.2.1.mem hm
      rw [he] at e2; cases e2
      exact hnf _ hd
    have nL := nfr fl3
    have nL2 : a ≠ X.env.locals := fun z => nL (List.mem_filterMap.mpr ⟨X.env, List.mem_cons_self, by rw [hf, z]⟩)
    have nF : a ∉ X.fs := fun hm => by
      obtain ⟨e, he, q⟩ := List.mem_filterMap.mp hm
      exact nL (List.mem_filterMap.mpr ⟨e, List.mem_cons_of_mem _ he, q⟩)
    exact as_run hs hf hN hi hln tk J nb na os ag fl3 (up.trans up3) (fun he hd => by
      have J3 : Inv X pins σ' H' { s' with heap := h3 } := J.landed nb fl3.1 (up.trans up3) os ag
      exact J3.suite he hd na nL2 nF) (fun {h4 oe vs} f4 up4 he hd => by
      have J4 : Inv X pins σ' H' { s' with heap := h4 } := J.landed nb f4.1 ((up.trans up3).trans up4) os ag
      exact J4.suite he hd na nL2 nF) hh w
  · cases fl with
    | next => obtain ⟨_, _, J1, q⟩ := h1; exact wpAny_execs_nil ⟨_, _, J1.ofTry ok, q⟩
    | brk => obtain ⟨_, _, J1, q⟩ := h1; exact ⟨_, _, J1.ofTry ok, q⟩
    | cont => obtain ⟨_, _, J1, q⟩ := h1; exact ⟨_, _, J1.ofTry ok, q⟩
    | ret u => obtain ⟨v, _, _, J1, r, q⟩ := h1; exact ⟨v, _, _, J1.ofTry ok, r, q⟩
end
theorem takes_len {X : Cx} {W : WX} {m : Nat} (tk : L2.Takes X W) (h : X.N.length = m := by rfl) : L2.Takes X (fun cls d σ H => σ.length = m → W cls d σ H) := fun u s' ⟨a, B, sI, pins, σ, H, cls, d, e, I, nb, up, sky, na, os, ag, w⟩ => tk u s' ⟨a, B, sI, pins, σ, H, cls, d, e, I, nb, up, sky, na, os, ag, w (I.len.trans h)⟩
/-! ### _law_tried -/
/-- what the clauses of _law_tried ask of the classes of errors -/
structure ExF (K : PySem.W.Frag) : Prop where
  cc : PySem.W.exmOne K (.ref (He.ga K "BadCurve")) (.ref (He.ga K "BadCurve")) = some true
  sc : PySem.W.exmOne K (.ref (He.ga K "BadCurves")) (.ref (He.ga K "BadCurve")) = some false
  ss : PySem.W.exmOne K (.ref (He.ga K "BadCurves")) (.ref (He.ga K "BadCurves")) = some true
  fc : PySem.W.exmOne K (.ref (He.ga K "BadFraction")) (.ref (He.ga K "BadCurve")) = some false
  fs : PySem.W.exmOne K (.ref (He.ga K "BadFraction")) (.ref (He.ga K "BadCurves")) = some false
  ff : PySem.W.exmOne K (.ref (He.ga K "BadFraction")) (.ref (He.ga K "BadFraction")) = some true
  xc : XfC K (He.ga K "BadCurve") ∧ PySem.W.findIn K (.ref (He.ga K "BadCurve")) "thing" = some none
  xs : XfC K (He.ga K "BadCurves") ∧ PySem.W.findIn K (.ref (He.ga K "BadCurves")) "index" = some none
  xf : XfC K (He.ga K "BadFraction") ∧ PySem.W.findIn K (.ref (He.ga K "BadFraction")) "thing" = some none
def tags : List (Str × Str × Str) := [("BadCurve", "thing", "curve"), ("BadCurves", "index", "curves"), ("BadFraction", "thing", "fraction")]
/-- told by _law_tried: an error by its tag -/
def TTried (K : PySem.W.Frag) : (XK → Hp → VK → Prop) → Hp → VK → Prop := fun tl H Q => tl (fun cls d H' => ∃ nm fld tag, (nm, fld, tag) ∈ tags ∧ cls = .ref (He.ga K nm) ∧ ∃ dd fs v, d = some dd ∧ H' dd = some (.xd fs) ∧ fs.lookup fld = some v ∧ ∀ p, H' p = none → Q (.ref p) (upd H' p (.tup [.str tag, v]))) H
  fun v H' => [V.str "told", v].length ≤ sizeLine ∧ ∀ p, H' p = none → Q (.ref p) (upd H' p (.tup [.str "told", v]))
abbrev N_l_tried : List Str := ["_law_ask", "e"]
theorem sc_l_tried : FnScope N_l_tried ["_law_ask"] (defScope (top 86)) := ⟨rfl, rfl, rfl, by decide +kernel, rfl, by decide +kernel, by decide +kernel⟩
theorem tried_gives {X : Cx} {g : Addr} {cdg : Value} {q : Str} (F : ExF X.K) (m1 : X.mg "BadCurve" = some (.ref (He.ga X.K "BadCurve"))) (m2 : X.mg "BadCurves" = some (.ref (He.ga X.K "BadCurves"))) (m3 : X.mg "BadFraction" = some (.ref (He.ga X.K "BadFraction"))) :
    GivesTo X N_l_tried "_law_tried" (defScope (top 86)) g cdg (defBody (top 86)) "_law_ask" q (TTried X.K) := by
  intro f c' s H Q tl act hc h
  refine ⟨_, pss_one (ps_try_asN (X := (cxOf C8.CX0 X.prog X.w X.K X.mg X.base N_l_tried "_law_tried" (defScope (top 86)) g cdg X.A X.stack s H C8.E0).nox) (i := 1) (n := "e")
    (tb := fun W D σ H => ∃ Ec : XK, (∀ cls d (σ' : L2.St) H', Ec cls d H' → σ'.length = 2 → W cls d σ' H') ∧ σ[0]? = some (some (.ref f)) ∧ H c' = some (CodeO c' q) ∧ tl Ec H fun v H1 => [V.str "told", v].length ≤ sizeLine ∧ ∀ p, H1 p = none → D.rt (.ref p) (upd H1 p (.tup [.str "told", v])))
    rfl rfl (show N_l_tried.Nodup by decide +kernel) rfl rfl L2.takes0 (fun W pn xe tk => ?_)
    (.cons ⟨rfl, rfl, .inl m1⟩ (fun a oe cls d pn hz hf => pss_one (ps_ret (pe_tup (pa_cons pe_str (pa_cons (pe_xf F.xc.1 F.xc.2 hz hf (pv 1)) pa_nil)))))
      (.cons ⟨rfl, rfl, .inl m2⟩ (fun a oe cls d pn hz hf => pss_one (ps_ret (pe_tup (pa_cons pe_str (pa_cons (pe_xf F.xs.1 F.xs.2 hz hf (pv 1)) pa_nil)))))
        (.cons ⟨rfl, rfl, .inl m3⟩ (fun a oe cls d pn hz hf => pss_one (ps_ret (pe_tup (pa_cons pe_str (pa_cons (pe_xf F.xf.1 F.xf.2 hz hf (pv 1)) pa_nil))))) .nil)))), ?_⟩
  · refine ⟨fun pins s' σ H' D I h' => ?_⟩
    obtain ⟨Ec, hW, h1, h2, h3⟩ := h'
    exact (pss_one (ps_ret (pe_tup (pa_cons pe_str (pa_cons (act (fun cls d σ H => σ.length = 2 → W cls d σ H) pn xe Ec _ _ (takes_len tk) hW) pa_nil))))).run pins s' σ H' D I ⟨h1, h2, h3⟩
  · refine ⟨_, ?_, rfl, hc, h⟩
    rintro cls d σ' H' ⟨nm, fld, tag, hm, rfl, dd, fs, v, rfl, hdd, hl, hq⟩ hlen
    have e1 : ∀ a : Addr, (σ'.set 1 (some (V.ref a)))[1]? = some (some (.ref a)) := fun a => List.getElem?_set_self (by omega)
    simp only [tags, List.mem_cons, List.not_mem_nil, or_false, Prod.mk.injEq] at hm
    rcases hm with ⟨rfl, rfl, rfl⟩ | ⟨rfl, rfl, rfl⟩ | ⟨rfl, rfl, rfl⟩
    · exact ⟨true, F.cc, fun _ a na => ⟨_, e1 a, rfl, rfl, dd, fs, v, rfl, hdd, hl, small_line (by simp), hq⟩, fun z => by cases z⟩
    · exact ⟨false, F.sc, (fun z => by cases z), fun _ => ⟨true, F.ss, fun _ a na => ⟨_, e1 a, rfl, rfl, dd, fs, v, rfl, hdd, hl, small_line (by simp), hq⟩, fun z => by cases z⟩⟩
    · exact ⟨false, F.fc, (fun z => by cases z), fun _ => ⟨false, F.fs, (fun z => by cases z), fun _ => ⟨true, F.ff, fun _ a na => ⟨_, e1 a, rfl, rfl, dd, fs, v, rfl, hdd, hl, small_line (by simp), hq⟩, fun z => by cases z⟩⟩⟩
end Q6
end
section
set_option maxHeartbeats 4000000
set_option exponentiation.threshold 2000000
/-! What is refused: readings. -/
namespace Q6
open PySem PySem.Spec PyProof.Rows L2 LamX RZ Qk
/-- this very value, and what it is -/
def tyX (C : Cf) (x : V) (d : PyData) : Ty := ⟨fun v H => v = x ∧ Dq C H v d, fun e ⟨h1, h2⟩ => ⟨h1, h2.ext e⟩⟩
/-- a new pair of a tag and this very address -/
def tyTag (tag : Str) (l : Addr) : Ty := ⟨fun v H => ∃ t, v = .ref t ∧ H t = some (.tup [.str tag, .ref l]), fun e ⟨t, h1, h2⟩ => ⟨t, h1, e _ _ h2 fun ps z => by cases z⟩⟩
/-- a curve is refused: the error holds the very first value -/
def spX (T : List (Addr × Str)) (K : PySem.W.Frag) (n : Nat) : Sp := fun vs H Q E => ∃ (S M : List Addr) (k : Nat) (x : V) (vs' : List V) (d : PyData) (ds : List PyData), vs = x :: vs' ∧ vs.length = n ∧ Ok ⟨K, T, S⟩ k M H ∧ DqAll ⟨K, T, S⟩ (hide M H) vs (d :: ds) ∧ clean d = true ∧ headOk d = false ∧ GoesT ⟨K, T, S⟩ M k H E "BadCurve" "thing" (tyV x)
theorem len_X {T : List (Addr × Str)} {K : PySem.W.Frag} {n : Nat} {vs : List V} {H : Hp} {Q : VK} {E : XK} (h : spX T K n vs H Q E) : vs.length = n := by
  obtain ⟨S, M, k, x, vs', d, ds, e, hl, _⟩ := h
  exact hl
theorem read_X {T : List (Addr × Str)} {K : PySem.W.Frag} {N : List Str} {n : Nat} {t : TS} {vs : List V} {H : Hp} {Q : VK} {E : XK}
    (h : ∀ S x d ds, (d :: ds).length = n → clean d = true → headOk d = false → HasRT ⟨K, T, S⟩ 0 t ((cxt ⟨K, T, S⟩ (d :: ds) N.length).set 0 (some (tyX ⟨K, T, S⟩ x d))) [] E "BadCurve" "thing" (tyV x)) (s : spX T K n vs H Q E) : t { nx := fun _ H' => Q .non H', rt := Q } (L2.start N vs) H := by
  obtain ⟨S, M, k, x, vs', d, ds, e, hl, ok, hd, hc, hh, g⟩ := s
  subst e
  have s0 : Sat ((cxt ⟨K, T, S⟩ (d :: ds) N.length).set 0 (some (tyX ⟨K, T, S⟩ x d))) (L2.start N (x :: vs')) (hide M H) := by
    refine (sat_start hd).put (i := 0) rfl ⟨rfl, ?_⟩
    cases hd with
    | cons h1 _ => exact h1
  exact h S x d ds (by rw [← dA_len hd]; exact hl) hc hh M H (hide M H) k _ H _ ⟨ok, ok, go.refl H, ExtN.refl _, fun p hp => (nomatch hp), List.nodup_nil, s0⟩ g
section
variable {C : Cf} {Γ : Cxt} {ta tb te : TE} {tr : TA} {c c1 c2 c3 : Nat} {A : Own} {B : Post} {R : Res} {n i j : Nat} {l F : Addr} {d e : PyData} {ds es : List PyData} {E : XK} {rest : TS} {τe : Ty} {x : V}
theorem has_unX (h : HasE C c te Γ (tyX C x d)) : HasE C c te Γ (tyD C d) := has_sub h fun v H p => p.2
theorem has_toV (h : HasE C c te Γ (tyX C x d)) : HasE C c te Γ (tyV x) := has_sub h fun v H p => p.1
theorem hasER_callX {n : Nat} (ha : HasE C c1 ta Γ (tyX C x d)) (hr : HasA C c2 tr Γ (fun l => l = ds)) (hl : ds.length + 1 = n) (hc : clean d = true) (hh : headOk d = false) : HasERT C (c1 + c2) (tCall (spX C.T C.K n) [] E (tCons ta tr)) Γ E "BadCurve" "thing" (tyV x) := fun M k σ H Q o s q =>
  ha M (k + c2) σ H _ (o.le (by omega)) s fun v H1 g1 o1 ⟨e1, p1⟩ => hr M k σ H1 _ o1 (s.ext (g1.k o)) fun vs H2 es g2 o2 e2 p2 => by
    subst e1 e2
    exact ⟨C.S, M, k, v, vs ++ [], d, es, by simp, by rw [List.append_nil]; simp [dA_len p2, hl], o2, by rw [List.append_nil]; exact .cons (p1.ext (g2.k o1)) p2, hc, hh, q.later (g1.trans g2)⟩
theorem ext_go {H H1 : Hp} (x : ExtN H H1) (t : Tabs C.T H1) : go C H H1 := ⟨hide_ext fun b o n e tt => ⟨n, x b o e tt⟩, fun _ => t⟩
theorem ext_ok {k : Nat} {M : List Addr} {H H1 : Hp} (x : ExtN H H1) (t : Tabs C.T H1) (o : Ok C k M H) : Ok C k M H1 := by
  refine ⟨fun a ha => ?_, t, o.sub, ?_⟩
  · obtain ⟨xs, e⟩ := o.dom a ha
    exact ⟨xs, x _ _ e fun ps z => by cases z⟩
  · rcases o.str with z | ⟨s, l', ns, sp, ct, mx, h1, h2, h3, h4, h5⟩
    · exact .inl z
    · exact .inr ⟨s, l', ns, sp, ct, mx, h1, h2, x _ _ h3 (fun ps z => by cases z), x _ _ h4 (fun ps z => by cases z), h5⟩
/-- _law_tried(lambda: ..), the lambda lets an error out -/
theorem has_tried {t : XK → TE} {nm fld tag : Str} {dv : PyData} (hm : (nm, fld, tag) ∈ tags) (h : ∀ E, HasERT C c (t E) Γ E nm fld (tyD C dv)) : HasE C c (tLam C.T (TTried C.K) t) Γ (tyD C (.tuple [.str tag, dv])) := fun M k σ H Q o st q =>
  ⟨o.tabs, fun H1 x T1 => by
    have g1 := ext_go (C := C) x T1
    have o1 := ext_ok x T1 o
    refine h _ M k σ H1 _ o1 (st.ext (g1.k o)) fun d v H2 g2 o2 hd hv => ⟨nm, fld, tag, hm, rfl, d, _, v, rfl, hd, (by simp), fun p hp => ?_⟩
    exact q _ _ ((g1.trans g2).trans (go.new hp)) (o2.new hp) (.tup (dom_new o2 hp) (.cons (.str tag) (.cons (hv.ext ((go.new (C := C) hp).k o2)) .nil)))⟩
theorem has_triedX {t : XK → TE} {nm fld tag : Str} {l : Addr} (hm : (nm, fld, tag) ∈ tags) (h : ∀ E, HasERT C c (t E) Γ E nm fld (tyV (.ref l))) : HasE C c (tLam C.T (TTried C.K) t) Γ (tyTag tag l) := fun M k σ H Q o st q =>
  ⟨o.tabs, fun H1 x T1 => by
    have g1 := ext_go (C := C) x T1
    have o1 := ext_ok x T1 o
    refine h _ M k σ H1 _ o1 (st.ext (g1.k o)) fun d v H2 g2 o2 hd hv => ⟨nm, fld, tag, hm, rfl, d, _, v, rfl, hd, (by simp), fun p hp => ?_⟩
    have hv : v = .ref l := hv
    subst hv
    exact q _ _ ((g1.trans g2).trans (go.new hp)) (o2.new hp) ⟨p, rfl, dom_new o2 hp⟩⟩
theorem has_glo {x : Str} : HasE C 0 (tC (.ref (He.ga C.K x))) Γ (tyD C (gloD x)) := fun M k σ H Q ok st q => q _ H (go.refl H) ok (.glo x)
theorem d_glo {H : Hp} {v : V} {x : Str} (h : Dq C H v (gloD x)) : v = .ref (He.ga C.K x) := by
  unfold gloD at h
  cases h with
  | glo => rfl
/-- a local name that holds one of three defs, called -/
def tFn3 (K : PySem.W.Frag) (i : Nat) (a b d : Str) (s1 s2 s3 : Sp) (E : XK) (t : TA) : TE := fun σ H Q => tFn i (He.ga K a) s1 E t σ H Q ∨ tFn i (He.ga K b) s2 E t σ H Q ∨ tFn i (He.ga K d) s3 E t σ H Q
theorem hasER_fn {nm a b g cls f : Str} {F1 F2 F3 : List PyData → Out → Prop} {m : Nat} {dv : PyData} (hg : Γ[i]? = some (some (tyD C (gloD nm)))) (ha : HasA C c1 tr Γ (fun l => l = ds)) (hl : ds.length = m)
    (hF : (nm = a ∧ F1 ds (.err cls f dv)) ∨ (nm = b ∧ F2 ds (.err cls f dv)) ∨ (nm = g ∧ F3 ds (.err cls f dv))) : HasER C (c1 + 0) (tFn3 C.K i a b g (spE C.T C.K 0 F1 m) (spE C.T C.K 0 F2 m) (spE C.T C.K 0 F3 m) E tr) Γ E cls f dv := fun M k σ H Q o s q => by
  obtain ⟨v, e1, e2⟩ := s.2 i _ hg
  have e2 := d_glo (C := C) e2
  subst e2
  rcases hF with ⟨rfl, hF⟩ | ⟨rfl, hF⟩ | ⟨rfl, hF⟩
  · exact .inl ⟨e1, hasER_call (C := C) (c2 := 0) ha hl hF M k σ H Q o s q⟩
  · exact .inr (.inl ⟨e1, hasER_call (C := C) (c2 := 0) ha hl hF M k σ H Q o s q⟩)
  · exact .inr (.inr ⟨e1, hasER_call (C := C) (c2 := 0) ha hl hF M k σ H Q o s q⟩)
theorem has_repN {m : Nat} (ha : HasE C c1 ta Γ (tyD C (.list ds))) (hz : ds.length * m ≤ 100000) (hm : m ≤ 100000) : HasE C (c1 + 0) (tOp rRep ta (tC (.int m))) Γ (tyD C (.list (List.replicate m ds).flatten)) := has_op ha has_int fun M k x y H Q ok p1 p2 q => by
  obtain ⟨a, xs, e, hx, r⟩ := d_lst p1
  have e2 := d_int p2
  subst e e2
  refine ⟨a, m, xs, rfl, rfl, (hide_some hx).2, by omega, by omega, ?_, fun p hp => ?_⟩
  · rw [dA_len r, Int.toNat_natCast]; exact small_line hz
  · have key : ∀ m : Nat, DqAll C (hide M H) (List.replicate m xs).flatten (List.replicate m ds).flatten := fun m => by
      induction m with
      | zero => exact .nil
      | succ m ih => rw [List.replicate_succ, List.replicate_succ, List.flatten_cons, List.flatten_cons]; exact dA_app r ih
    rw [Int.toNat_natCast]
    exact q _ _ (go.new hp) (ok.new hp) (.lst (dom_new ok hp) ((key m).ext ((go.new (C := C) hp).k ok)))
/-- l.append(e), l the second of one's own -/
theorem hasS_append2 {p : Addr × List PyData} (hg : Γ[n]? = some (some (tyV (.ref l)))) (h : HasE C c te Γ (tyD C d)) (hz : ds.length < 100000) (hb : B Γ (p :: (l, ds ++ [d]) :: A)) :
    HasS C c (tDrop (tBM C.K "list" rAppend (tVar n) (tCons te tNil))) Γ (p :: (l, ds) :: A) B R := fun M0 H0 N k σ H D a q r => by
  obtain ⟨v, e1, e2⟩ := a.sat.2 n _ hg
  have e2 : v = .ref l := e2
  subst e2
  have hmem : (l, ds) ∈ p :: (l, ds) :: A := List.mem_cons_of_mem _ (List.mem_cons_self ..)
  obtain ⟨_, hn, xs, hx, hr⟩ := a.own (l, ds) hmem
  refine ⟨.ref l, e1, .inl ⟨rfl, _, sqL_of hx⟩, h _ k σ H _ a.ok a.sat fun y H1 g1 o1 py => ?_⟩
  have a1 := a.gos g1 o1
  have hx1 : H1 l = some (.lst xs) := g1.at (fun z => hn (a.ok0.sub _ z)) hx (fun ps z => by cases z)
  have hr1 := hr.ext (g1.k a.ok)
  refine ⟨l, xs, y, rfl, rfl, hx1, ?_, q _ _ _ _ hb (own_put a1 hmem hx1 (dA_app hr1 (dA_one py)) rfl fun p' hp => ?_)⟩
  · rw [dA_len hr]; exact Nat.lt_of_lt_of_le hz (small_line (Nat.le_refl _))
  · have nd := a.nd
    simp only [List.map_cons, List.nodup_cons, List.mem_cons, not_or] at nd
    rcases List.mem_cons.mp hp with e | hp
    · exact .inr ⟨by rw [e]; exact nd.1.1, by rw [e]; exact List.mem_cons_self ..⟩
    · rcases List.mem_cons.mp hp with e | hp
      · exact .inl e
      · exact .inr ⟨fun z => nd.2.1 (by rw [← z]; exact List.mem_map.mpr ⟨p', hp, rfl⟩), List.mem_cons_of_mem _ (List.mem_cons_of_mem _ hp)⟩
/-- x, y = e, [None]: the new list stays one's own -/
theorem hasS_seq_held (h : HasE C c1 ta Γ (tyD C d)) (hr : ∀ l, HasS C c2 rest ((Γ.set i (some (tyD C d))).set j (some (tyV (.ref l)))) ((l, [.none]) :: A) B R) : HasS C (c1 + c2) (tSeq (tAsg (tTup (tCons ta (tCons (tLst (tCons (tC .non) tNil)) tNil))) (gTup C.K 2 (gCons (gName i) (gCons (gName j) gNil)))) rest) Γ A B R := fun M0 H0 N k σ H D a q r =>
  h _ (k + c2) σ H _ (a.le (by omega) : At0 C _ M0 H0 N A Γ σ H).ok a.sat fun v H1 g1 o1 p => by
    have a1 := a.gos g1 o1
    refine ⟨small_line (by simp), fun l hl => ⟨small_line (by simp), fun t ht => ?_⟩⟩
    have a2 := own_new a1 hl (dA_one .non)
    have o2 := a2.ok.new (o := .tup [v, .ref l]) ht
    have a3 := a2.gos (go.new ht) o2
    have x1 := a1.kept
    have p3 : Dq C (hide (((l, [PyData.none]) :: A).map (·.1) ++ M0) (upd (upd H1 l (.lst [.non])) t (.tup [v, .ref l]))) v d := by
      have hn := a1.ok.out hl
      refine p.ext (hide_ext fun b o nb eb tt => ⟨fun z => ?_, ?_⟩)
      · rcases List.mem_cons.mp z with z | z
        · rw [z, hl] at eb; cases eb
        · exact nb z
      · have h1 : b ≠ l := fun z => by rw [z, hl] at eb; cases eb
        have h2 : b ≠ t := fun z => by
          have e : upd H1 l (.lst [.non]) b = some o := by rw [upd_ne h1]; exact eb
          rw [z, ht] at e; cases e
        rw [upd_ne h2, upd_ne h1]; exact eb
    refine ⟨t, _, rfl, sqT_of upd_same, rfl, v, _, rfl, _, _, rfl, rfl, ?_⟩
    exact hr l M0 H0 N k _ _ D (a3.step (go.refl _) a3.ok ((a3.sat.set (τ := tyD C d) p3).set (τ := tyV (.ref l)) rfl)) q r
/-- found.append(held's pair); found.append(e); held.append('late') -/
theorem hasS_held {t7 t8 : TE} {e8 : PyData} {tag : Str} {c4 : Nat} (hgF : Γ[n]? = some (some (tyV (.ref F)))) (hgl : Γ[j]? = some (some (tyV (.ref l)))) (hnj : n ≠ j) (h7 : HasE C c1 t7 (Γ.set j (some (tyX C (.ref l) (.list [.none])))) (tyTag tag l)) (h8 : HasE C c2 t8 Γ (tyD C e8)) (hz : ds.length ≤ 50000)
    (hr : HasS C c4 rest (Γ.set j none) ((F, ds ++ [.tuple [.str tag, .list [.none, .str "late"]], e8]) :: A) B R) :
    HasS C (c1 + (c2 + c4)) (tSeq (tDrop (tBM C.K "list" rAppend (tVar n) (tCons t7 tNil))) (tSeq (tDrop (tBM C.K "list" rAppend (tVar n) (tCons t8 tNil))) (tSeq (tDrop (tBM C.K "list" rAppend (tVar j) (tCons (tC (.str "late")) tNil))) rest))) Γ ((l, [.none]) :: (F, ds) :: A) B R := fun M0 H0 N k σ H D a q r => by
  obtain ⟨vF, eF, e2⟩ := a.sat.2 n _ hgF
  have e2 : vF = .ref F := e2
  subst e2
  obtain ⟨vl, el, e2⟩ := a.sat.2 j _ hgl
  have e2 : vl = .ref l := e2
  subst e2
  obtain ⟨nl, ml, xl, hl, rl⟩ := a.own (l, [.none]) (List.mem_cons_self ..)
  obtain ⟨nF, mF, xs, hF, rF⟩ := a.own (F, ds) (List.mem_cons_of_mem _ (List.mem_cons_self ..))
  simp only at nl ml hl rl nF mF hF rF
  have exl : xl = [.non] := by
    cases rl with
    | cons r1 r2 => cases r2; rw [d_non r1]
  subst exl
  have nd := a.nd
  simp only [List.map_cons, List.nodup_cons, List.mem_cons, not_or] at nd
  have sl : l ∉ C.S := fun z => ml (a.ok0.sub _ z)
  have sF : F ∉ C.S := fun z => mF (a.ok0.sub _ z)
  -- what may be seen with held, and without
  generalize hM : (A.map (·.1) ++ M0) = M at *
  have hMl : l ∉ M := fun z => by
    rw [← hM] at z
    rcases List.mem_append.mp z with z | z
    · exact nd.1.2 z
    · exact ml z
  have hMF : F ∉ M := fun z => by
    rw [← hM] at z
    rcases List.mem_append.mp z with z | z
    · exact nd.2.1 z
    · exact mF z
  have okA : Ok C (k + (c1 + (c2 + c4))) (l :: F :: M) H := by have := a.ok; rwa [List.map_cons, List.map_cons, List.cons_append, List.cons_append, hM] at this
  have satA : Sat Γ σ (hide (l :: F :: M) H) := by have := a.sat; rwa [List.map_cons, List.map_cons, List.cons_append, List.cons_append, hM] at this
  have rF' : DqAll C (hide (l :: F :: M) H) xs ds := by have := rF; rwa [List.map_cons, List.map_cons, List.cons_append, List.cons_append, hM] at this
  have kpA : ExtN N (hide (l :: F :: M) H) := by have := a.kept; rwa [List.map_cons, List.map_cons, List.cons_append, List.cons_append, hM] at this
  have ok1 : Ok C (k + (c2 + c4) + c1) (F :: M) H := ⟨fun b hb => okA.dom b (List.mem_cons_of_mem _ hb), okA.tabs, fun b hb => by
    rcases List.mem_cons.mp (okA.sub b hb) with z | z
    · exact absurd (by rw [← z]; exact hb) sl
    · exact z, (okA.le (by omega)).str⟩
  have x0 : ExtN (hide (l :: F :: M) H) (hide (F :: M) H) := ext_more fun b hb => List.mem_cons_of_mem _ hb
  have sat1 : Sat (Γ.set j (some (tyX C (.ref l) (.list [.none])))) σ (hide (F :: M) H) := (satA.ext x0).put el ⟨rfl, .lst (by
    rw [hide_out fun z => ?_]
    · exact hl
    · rcases List.mem_cons.mp z with z | z
      · exact nd.1.1 z
      · exact hMl z) (dA_one .non)⟩
  refine ⟨_, eF, .inl ⟨rfl, _, sqL_of hF⟩, h7 (F :: M) (k + (c2 + c4)) σ H _ ok1 sat1 fun v H1 g1 o1 ⟨t, ev, ht⟩ => ?_⟩
  subst ev
  have F1 : H1 F = some (.lst xs) := g1.at sF hF (fun ps z => by cases z)
  have l1 : H1 l = some (.lst [.non]) := g1.at sl hl (fun ps z => by cases z)
  obtain ⟨tm, t1⟩ := hide_some ht
  have tF : t ≠ F := fun z => tm (by rw [z]; exact List.mem_cons_self ..)
  have tl : t ≠ l := fun z => by rw [z, l1] at t1; cases t1
  refine ⟨F, xs, _, rfl, rfl, F1, by rw [dA_len rF']; exact Nat.lt_of_lt_of_le (show ds.length < 100000 by omega) (small_line (Nat.le_refl _)), ?_⟩
  -- the second, held hidden
  generalize eH2 : upd H1 F (.lst (xs ++ [.ref t])) = H2
  have F2 : H2 F = some (.lst (xs ++ [.ref t])) := by rw [← eH2]; exact upd_same
  have at2 : ∀ b, b ≠ F → H2 b = H1 b := fun b hb => by rw [← eH2]; exact upd_ne hb
  have o2 : Ok C (k + c4 + c2) (l :: F :: M) H2 := by
    have : Ok C (k + (c2 + c4)) (F :: M) H2 := by rw [← eH2]; exact o1.upd F1 sF
    exact (this.le (by omega)).cons (by rw [at2 l nd.1.1]; exact l1)
  have x2 : ExtN (hide (l :: F :: M) H) (hide (l :: F :: M) H2) := hide_ext fun b o nb eb tt => ⟨nb, by
    rw [at2 b fun z => nb (by rw [z]; exact List.mem_cons_of_mem _ (List.mem_cons_self ..))]
    exact g1.at (fun z => nb (okA.sub _ z)) eb tt⟩
  refine ⟨_, eF, .inl ⟨rfl, _, sqL_of F2⟩, h8 (l :: F :: M) (k + c4) σ H2 _ o2 (satA.ext x2) fun y H3 g3 o3 py => ?_⟩
  have F3 : H3 F = some (.lst (xs ++ [.ref t])) := g3.at sF F2 (fun ps z => by cases z)
  have l3 : H3 l = some (.lst [.non]) := g3.at sl (by rw [at2 l nd.1.1]; exact l1) (fun ps z => by cases z)
  have t3 : H3 t = some (.tup [.str tag, .ref l]) := g3.at (fun z => tm (by
    rcases List.mem_cons.mp (okA.sub _ z) with z | z
    · exact absurd z tl
    · exact z)) (by rw [at2 t tF]; exact t1) (fun ps z => by cases z)
  refine ⟨F, _, y, rfl, rfl, F3, by rw [List.length_append, dA_len rF']; exact Nat.lt_of_lt_of_le (show ds.length + 1 < 100000 by omega) (small_line (Nat.le_refl _)), ?_⟩
  refine ⟨_, el, .inl ⟨rfl, _, sqL_of (by rw [upd_ne nd.1.1]; exact l3)⟩, l, [.non], .str "late", rfl, rfl, by rw [upd_ne nd.1.1]; exact l3, small_line (by simp), ?_⟩
  -- all together
  generalize eH5 : upd (upd H3 F (.lst (xs ++ [.ref t] ++ [y]))) l (.lst ([.non] ++ [.str "late"])) = H5
  have F5 : H5 F = some (.lst (xs ++ [.ref t] ++ [y])) := by rw [← eH5, upd_ne (Ne.symm nd.1.1)]; exact upd_same
  have l5 : H5 l = some (.lst [.non, .str "late"]) := by rw [← eH5]; exact upd_same
  have at5 : ∀ b, b ≠ F → b ≠ l → H5 b = H3 b := fun b h1 h2 => by rw [← eH5, upd_ne h2, upd_ne h1]
  have o5 : Ok C (k + c4) (F :: M) H5 := by
    have h1 : Ok C (k + c4) (F :: M) H3 := ⟨fun b hb => o3.dom b (List.mem_cons_of_mem _ hb), o3.tabs, ok1.sub, o3.str⟩
    rw [← eH5]
    exact (h1.upd F3 sF).upd (by rw [upd_ne nd.1.1]; exact l3) sl
  have x5 : ExtN (hide (l :: F :: M) H3) (hide (F :: M) H5) := hide_ext fun b o nb eb tt => by
    have h1 : b ≠ l := fun z => nb (by rw [z]; exact List.mem_cons_self ..)
    have h2 : b ≠ F := fun z => nb (by rw [z]; exact List.mem_cons_of_mem _ (List.mem_cons_self ..))
    exact ⟨fun z => nb (List.mem_cons_of_mem _ z), by rw [at5 b h2 h1]; exact eb⟩
  have xA := (x2.trans (g3.k o2)).trans x5
  have g5 : go C H0 H5 := by
    refine ⟨hide_ext fun b o nb eb tt => ⟨nb, ?_⟩, fun _ => o5.tabs⟩
    have h1 : b ≠ l := fun z => by
      rw [z] at eb
      obtain ⟨ps, e⟩ := nl o eb
      exact tt ps e
    have h2 : b ≠ F := fun z => by
      rw [z] at eb
      obtain ⟨ps, e⟩ := nF o eb
      exact tt ps e
    rw [at5 b h2 h1]
    exact g3.at nb (by rw [at2 b h2]; exact (a.gone.trans g1).at nb eb tt) tt
  have tg : Dq C (hide (F :: M) H5) (.ref t) (.tuple [.str tag, .list [.none, .str "late"]]) := by
    refine .tup (by rw [hide_out tm, at5 t tF tl]; exact t3) (.cons (.str tag) (.cons (.lst (xs := [.non, .str "late"]) ?_ (.cons .non (.cons (.str "late") .nil))) .nil))
    rw [hide_out fun z => ?_]
    · exact l5
    · rcases List.mem_cons.mp z with z | z
      · exact nd.1.1 z
      · exact hMl z
  have sat5 : Sat (Γ.set j none) σ (hide (F :: M) H5) := by
    have h1 := satA.ext xA
    refine ⟨by simpa using h1.1, fun i τ e => ?_⟩
    by_cases z : j = i
    · subst z
      rcases Nat.lt_or_ge j Γ.length with h | h
      · rw [List.getElem?_set_self h] at e; cases e
      · rw [List.getElem?_eq_none (by simpa using h)] at e; cases e
    · rw [List.getElem?_set_ne z] at e; exact h1.2 i τ e
  refine hr M0 H0 N k σ H5 D ⟨by rw [List.map_cons, List.cons_append, hM]; exact o5, ⟨fun b hb => o5.dom b (List.mem_cons_of_mem _ (by rw [← hM]; exact List.mem_append_right _ hb)), o5.tabs, a.ok0.sub, o5.str⟩, g5, by rw [List.map_cons, List.cons_append, hM]; exact kpA.trans xA, fun p hp => ?_, List.nodup_cons.mpr ⟨nd.2.1, nd.2.2⟩, by rw [List.map_cons, List.cons_append, hM]; exact sat5⟩ q r
  rw [List.map_cons, List.cons_append, hM]
  rcases List.mem_cons.mp hp with e | e
  · subst e
    refine ⟨nF, mF, _, F5, ?_⟩
    have := dA_app (dA_app (rF'.ext xA) (dA_one tg)) (dA_one (py.ext x5))
    show DqAll C _ _ (ds ++ [_, e8])
    rw [show ∀ z : PyData, ds ++ [z, e8] = ds ++ [z] ++ [e8] from fun z => by simp]
    exact this
  · obtain ⟨w1, w2, ys, w3, w4⟩ := a.own p (List.mem_cons_of_mem _ (List.mem_cons_of_mem _ e))
    have pm : p.1 ∈ A.map (·.1) := List.mem_map.mpr ⟨p, e, rfl⟩
    have p1 : p.1 ≠ l := fun z => nd.1.2 (by rw [← z]; exact pm)
    have p2 : p.1 ≠ F := fun z => nd.2.1 (by rw [← z]; exact pm)
    have ps : p.1 ∉ C.S := fun z => w2 (a.ok0.sub _ z)
    refine ⟨w1, w2, ys, ?_, ?_⟩
    · rw [at5 _ p2 p1]
      exact g3.at ps (by rw [at2 _ p2]; exact g1.at ps w3 (fun ps z => by cases z)) (fun ps z => by cases z)
    · rw [List.map_cons, List.map_cons, List.cons_append, List.cons_append, hM] at w4
      exact w4.ext xA
end
end Q6
end
section
set_option maxHeartbeats 4000000
set_option exponentiation.threshold 2000000
/-! What is refused: the walk. -/
namespace Q6
open PySem PySem.Spec PyProof.Rows L2 LamX RZ Qk
section
variable {X : Cx} {p pos lpos : Pos} {params : Arguments} {body : Expr} {scope : Scope} {t : XK → TE} {k : Nat} {T : List (Addr × Str)} {c Pt : Addr}
/-- _law_tried(lambda: ..) -/
theorem pe_tried (F : At X.K X.mg "_law_tried" 86) (EF : ExF X.K) (m1 : X.mg "BadCurve" = some (.ref (He.ga X.K "BadCurve"))) (m2 : X.mg "BadCurves" = some (.ref (He.ga X.K "BadCurves"))) (m3 : X.mg "BadFraction" = some (.ref (He.ga X.K "BadFraction")))
    (TB : TabB X.base X.mg c Pt) (hcode : X.env.code = .ref c) (hmT : (Pt, X.env.qual ++ "<lambda>") ∈ T) (hu : ∀ p ∈ T, p.1 = Pt → p.2 = X.env.qual ++ "<lambda>") (hr : Room (k + 2) X.A) (L : LamS X.env.scope scope) (hdef : defaultsOf params X.env = ([], []))
    (hbind : ∀ (q : Str) (cl : List (Str × Addr)) (pm cv ctv : Value), bindArgs (PySem.W.kla_fn "<lambda>" q params body scope cl pm cv ctv) ⟨[], []⟩ = pure []) (hg : Gl X "_law_tried")
    (hbody : ∀ (A : Around) (outer : List Env) (s : Shared) (H : Hp) (E : XK) (f c' : Addr), Room k (A.deeper (lamEnv X scope s.heap.objs.size f c')) → PE (lamCx X A outer s H E scope f c') body (t E)) :
    PE X (.Call (.Name "_law_tried" p) [.Lambda params body scope lpos] [] pos) (tLam T (TTried X.K) t) := by
  obtain ⟨fd, F1⟩ := F.ex
  have hb := F1.bindsN (ps := ["_law_ask"]) fun kV doc pm an cdv ct us hl => match us, hl with | [_], _ => rfl
  have kp := F1.kp
  obtain ⟨oc, od, dV, kV, doc, pm, an, cdv, ct, osl, e, lk, hcd, hD, _⟩ := F1.ex
  subst e
  exact pe_lamcall (a := "_law_ask") (Ng := N_l_tried) hg F.gm kp lk hcd hb sc_l_tried rfl (.inl rfl) (tried_gives EF m1 m2 m3) TB hcode hmT hu hr L hdef hbind hbody
theorem pe_fn3 {CX : CXT} {k1 k2 k3 k' i : Nat} {a b d x : Str} {ps1 ps2 ps3 : List Str} {s1 s2 s3 : Sp} {E : XK} {e : Expr} {es : List Expr} {t : TA} (D1 : Def X.prog X.w X.K X.mg X.base CX k1 a ps1 s1) (D2 : Def X.prog X.w X.K X.mg X.base CX k2 b ps2 s2) (D3 : Def X.prog X.w X.K X.mg X.base CX k3 d ps3 s3) (hr : Room k' X.A) (h1 : k1 ≤ k') (h2 : k2 ≤ k') (h3 : k3 ≤ k') (hx : Passes CX X E) (hN : X.N[i]? = some x) (hv : Vis X.env.scope x) (ha : PA X (e :: es) t)
    (hd : (x == ("__debug__" : Str)) = false) (hcd : (x == ("__classdict__" : Str)) = false) (he : starEach (e :: es) X.env = (false, eval e X.env) :: starEach es X.env := by rfl) (hpl : (backTo pos (starEach es X.env)).any (·.1) = false := by rfl) :
    PE X (.Call (.Name x p) (e :: es) [] pos) (tFn3 X.K i a b d s1 s2 s3 E t) := ⟨fun pins s σ H Q I h => by
  rcases h with h | h | h
  · exact (pe_fn D1 hr h1 hx hN hv ha hd hcd he hpl).run pins s σ H Q I h
  · exact (pe_fn D2 hr h2 hx hN hv ha hd hcd he hpl).run pins s σ H Q I h
  · exact (pe_fn D3 hr h3 hx hN hv ha hd hcd he hpl).run pins s σ H Q I h⟩
theorem pe_fn3K {K : PySem.W.Frag} {CX : CXT} {k1 k2 k3 k' i : Nat} {a b d x : Str} {ps1 ps2 ps3 : List Str} {s1 s2 s3 : Sp} {E : XK} {e : Expr} {es : List Expr} {t : TA} (hK : X.K = K) (D1 : Def X.prog X.w K X.mg X.base CX k1 a ps1 s1) (D2 : Def X.prog X.w K X.mg X.base CX k2 b ps2 s2) (D3 : Def X.prog X.w K X.mg X.base CX k3 d ps3 s3) (hr : Room k' X.A) (h1 : k1 ≤ k') (h2 : k2 ≤ k') (h3 : k3 ≤ k') (hx : Passes CX X E) (hN : X.N[i]? = some x) (hv : Vis X.env.scope x) (ha : PA X (e :: es) t)
    (hd : (x == ("__debug__" : Str)) = false) (hcd : (x == ("__classdict__" : Str)) = false) (he : starEach (e :: es) X.env = (false, eval e X.env) :: starEach es X.env := by rfl) (hpl : (backTo pos (starEach es X.env)).any (·.1) = false := by rfl) :
    PE X (.Call (.Name x p) (e :: es) [] pos) (tFn3 K i a b d s1 s2 s3 E t) := by
  subst hK
  exact pe_fn3 D1 D2 D3 hr h1 h2 h3 hx hN hv ha hd hcd he hpl
end
section
variable {P : Program} {w : World} {K : PySem.W.Frag} {mg : Str → Option Value} {base : Heap} {TT : List (Addr × Str)}
/-! the very value that is refused -/
theorem ok_checked_curveX (T : Txt mg) (O : OddOk K) (D_as_told : Def P w K mg base CX0 6 "as_told" P_as_told (spR TT K 0 F_as_told 1)) (D_is_curve_thing : Def P w K mg base CX0 5 "is_curve_thing" P_is_curve_thing (spD TT K F_is_curve_thing 1)) (X_BadCurve : Xc K mg "BadCurve" "thing" 40) (F : At K mg "checked_curve" 43) : Def P w K mg base (L2.CX P w) 7 "checked_curve" P_checked_curve (spX TT K 1) := by
  have nd := sc_checked_curve.nd
  have hu65 : ∀ {k A}, Room k A → A.units + 65 < cLine := fun r => by have := r.un; omega
  refine def_ofX F sc_checked_curve (fun _ _ _ _ _ _ us hl => match us, hl with | [_], _ => rfl) (fun vs H Q E h => len_X h) (fun cdv A outer s H vs Q E hr h => ⟨_, (pss_cons (ps_if (pt_not (pt_val (pe_callD D_is_curve_thing hr (by decide) rfl pass0 (pa_cons (pv 0) pa_nil)))) (pss_one (ps_raiseX X_BadCurve sc_BadCurve rfl rfl (.inl rfl) (.inl rfl) (fun _ _ _ _ _ _ _ us hl => match us, hl with | [_, _], _ => rfl) rfl rfl (takes_of rfl rfl rfl rfl) (hr.mono (by decide)) rfl (pv 0) rfl rfl)) pss_nil)
    (pss_one (ps_ret (pe_callD D_as_told hr (by decide) rfl pass0 (pa_cons (pv 0) pa_nil))))), read_X ?_ h⟩)
  intro S x d ds hl hc hh
  obtain rfl : ds = [] := List.eq_nil_of_length_eq_zero (by simpa using hl)
  refine hasR_0 (hasR_seq1 (hasR_if (b := true) (c2 := 0) (c3 := 0) (hast_conv (hast_not (hast_B (has_call (d := .bool false) (has_cons (has_unX (has_var rfl)) has_nil) rfl ⟨d, rfl, hc, .inr ⟨hh, rfl⟩⟩))) rfl) (fun hq => hasR_raise rfl (has_toV (has_var rfl))) fun hq => by cases hq)) rfl
theorem ok_differenceX (T : Txt mg) (O : OddOk K) (D_checked_curve : Def P w K mg base (L2.CX P w) 7 "checked_curve" P_checked_curve (spX TT K 1)) (D_apart_by : Def P w K mg base CX0 7 "apart_by" P_apart_by (spR TT K 0 F_apart_by 2)) (F : At K mg "difference" 50) : Def P w K mg base (L2.CX P w) 8 "difference" P_difference (spX TT K 2) := by
  have nd := sc_difference.nd
  have hu65 : ∀ {k A}, Room k A → A.units + 65 < cLine := fun r => by have := r.un; omega
  refine def_ofX F sc_difference (fun _ _ _ _ _ _ us hl => match us, hl with | [_, _], _ => rfl) (fun vs H Q E h => len_X h) (fun cdv A outer s H vs Q E hr h => ⟨_, (pss_cons (ps_set (i := 2) nd rfl (Or.inl rfl) (pe_callD D_checked_curve hr (by decide) rfl (passes_call (takes_of rfl rfl rfl rfl) fun _ _ _ _ h => h) (pa_cons (pv 0) pa_nil)))
    (pss_one (ps_ret (pe_callD D_apart_by hr (by decide) rfl pass0 (pa_cons (pv 2) (pa_cons (pe_callD D_checked_curve hr (by decide) rfl (passes_call (takes_of rfl rfl rfl rfl) fun _ _ _ _ h => h) (pa_cons (pv 1) pa_nil)) pa_nil)))))), read_X ?_ h⟩)
  intro S x d ds hl hc hh
  exact hasR_0 (hasR_seq1 (hasR_asg (hasER_callX (has_var rfl) has_nil rfl hc hh))) rfl
end
end Q6
end
section
set_option maxHeartbeats 4000000
set_option exponentiation.threshold 2000000
/-! _law_refused_right. -/
namespace Q6
open PySem PySem.Spec PyProof.Rows L2 LamX RZ Qk
/-- x, y, z = some datum, [], [] -/
theorem hasS_seq_parD {C : Cf} {Γ : Cxt} {ta : TE} {c1 c2 : Nat} {A : Own} {B : Post} {R : Res} {rest : TS} {P : PyData → Prop} {i j m : Nat} (h : HasE C c1 ta Γ (tyP C P)) (hr : ∀ d, P d → ∀ l1 l2, HasS C c2 rest (((Γ.set i (some (tyD C d))).set j (some (tyV (.ref l1)))).set m (some (tyV (.ref l2)))) ((l2, []) :: (l1, []) :: A) B R) :
    HasS C (c1 + c2) (tSeq (tPar3 i j m (tCons ta (tCons (tLst tNil) (tCons (tLst tNil) tNil)))) rest) Γ A B R := fun M0 H0 N k σ H D a q r =>
  h _ (k + c2) σ H _ (a.le (by omega) : At0 C _ M0 H0 N A Γ σ H).ok a.sat fun v H1 g1 o1 ⟨d, hd, p⟩ => by
    have a1 := a.gos g1 o1
    refine ⟨small_line (by simp), fun l1 h1 => ⟨small_line (by simp), fun l2 h2 => ?_⟩⟩
    have a2 := own_new a1 h1 .nil
    have a3 := own_new a2 h2 .nil
    have n1 := a1.ok.out h1
    have n2 := a2.ok.out h2
    have p3 : Dq C (hide (((l2, []) :: (l1, []) :: A).map (·.1) ++ M0) (upd (upd H1 l1 (.lst [])) l2 (.lst []))) v d := by
      refine p.ext (hide_ext fun b o nb eb tt => ?_)
      have b1 : b ≠ l1 := fun z => by rw [z, h1] at eb; cases eb
      have b2 : b ≠ l2 := fun z => by
        have e : upd H1 l1 (.lst []) b = some o := by rw [upd_ne b1]; exact eb
        rw [z, h2] at e; cases e
      refine ⟨fun z => ?_, by rw [upd_ne b2, upd_ne b1]; exact eb⟩
      rcases List.mem_cons.mp z with z | z
      · exact b2 z
      · rcases List.mem_cons.mp z with z | z
        · exact b1 z
        · exact nb z
    refine ⟨_, _, _, rfl, ?_⟩
    exact hr d hd l1 l2 M0 H0 N k _ _ D (a3.step (go.refl _) a3.ok (((a3.sat.set (τ := tyD C d) p3).set (τ := tyV (.ref l1)) rfl).set (τ := tyV (.ref l2)) rfl)) q r
theorem Paired.take {α β : Type} {F : α → β → Prop} : ∀ {xs : List α} {ys : List β} (n : Nat), Paired F xs ys → Paired F (xs.take n) (ys.take n)
  | _, _, 0, _ => .nil
  | _, _, _ + 1, .nil => .nil
  | _, _, n + 1, .cons h r => .cons h (Paired.take n r)
theorem cleanAll_app : ∀ {ds es : List PyData}, cleanAll ds = true → cleanAll es = true → cleanAll (ds ++ es) = true
  | [], _, _, h => h
  | d :: ds, es, h1, h2 => by
    simp only [cleanAll, Bool.and_eq_true] at h1
    simp only [List.cons_append, cleanAll, Bool.and_eq_true]
    exact ⟨h1.1, cleanAll_app h1.2 h2⟩
theorem cleanAll_of : ∀ {ds : List PyData}, (∀ d ∈ ds, clean d = true) → cleanAll ds = true
  | [], _ => rfl
  | d :: ds, h => by
    simp only [cleanAll, Bool.and_eq_true]
    exact ⟨h d (List.mem_cons_self ..), cleanAll_of fun e he => h e (List.mem_cons_of_mem _ he)⟩
theorem Wk.trans : ∀ {Γ Δ Θ : Cxt}, Wk Γ Δ → Wk Δ Θ → Wk Γ Θ
  | _, _, _, .nil, .nil => .nil
  | _, _, _, .drop a, .drop b => .drop (a.trans b)
  | _, _, _, .drop a, .same b => .drop (a.trans b)
  | _, _, _, .same a, .drop b => .drop (a.trans b)
  | _, _, _, .same a, .same b => .same (a.trans b)
  | _, _, _, .same a, .sub h b => .sub h (a.trans b)
  | _, _, _, .sub h a, .drop b => .drop (a.trans b)
  | _, _, _, .sub h a, .same b => .sub h (a.trans b)
  | _, _, _, .sub h a, .sub h' b => .sub (fun v H z => h' v H (h v H z)) (a.trans b)
def nones : List PyData := [.none, .int 5, .tuple [.int 1, .int 0], .bool true, .str "1", .list [], .dict [], .tuple [.int 1, .bool true], .tuple [.int 1, .int 1, .int 1]]
def wrongs : List PyData := [.none, .int 5, .str "ab", .dict [], .bool true, fnD]
theorem odd_bad : ∀ d ∈ odds, clean d = true ∧ headOk d = false := by
  intro d hd
  simp only [odds, List.mem_cons, List.not_mem_nil, or_false] at hd
  rcases hd with rfl | rfl | rfl | rfl | rfl | rfl | rfl | rfl | rfl | rfl | rfl | rfl | rfl | rfl
  all_goals exact ⟨rfl, rfl⟩
theorem none_bad : ∀ d ∈ nones, clean d = true ∧ isFracD d = false := by
  intro d hd
  simp only [nones, List.mem_cons, List.not_mem_nil, or_false] at hd
  rcases hd with rfl | rfl | rfl | rfl | rfl | rfl | rfl | rfl | rfl
  all_goals exact ⟨rfl, rfl⟩
theorem wrong_bad : ∀ d ∈ wrongs, clean d = true ∧ seqD d = none := by
  intro d hd
  simp only [wrongs, List.mem_cons, List.not_mem_nil, or_false] at hd
  rcases hd with rfl | rfl | rfl | rfl | rfl | rfl
  all_goals exact ⟨rfl, rfl⟩
theorem sm_flat {n : Nat} {d : PyData} (h : scalD d = true ∨ (∃ b, d = .bool b) ∨ d = fnD) : Sm n d := by
  cases n with
  | zero => exact h.elim .inl fun h => h.elim (fun h => .inr (.inl h)) fun h => .inr (.inr (.inl h))
  | succ n => exact h.elim .inl fun h => h.elim (fun h => .inr (.inl h)) fun h => .inr (.inr (.inl h))
theorem sm_seq {n : Nat} {d : PyData} {ds : List PyData} (h : seqD d = some ds) (hl : ds.length ≤ 1000) (hs : ∀ e ∈ ds, Sm n e) : Sm (n + 1) d := .inr (.inr (.inr (.inr ⟨ds, h, hl, hs⟩)))
theorem sm_int {n : Nat} {i : Int} : Sm n (.int i) := sm_flat (.inl rfl)
theorem sm_ints {n : Nat} {d : PyData} {ds : List PyData} (h : seqD d = some ds) (hl : ds.length ≤ 1000) (hs : ∀ e ∈ ds, (∃ i, e = .int i) ∨ ∃ b, e = .bool b) : Sm (n + 1) d := sm_seq h hl fun e he => by
  rcases hs e he with ⟨i, rfl⟩ | ⟨b, rfl⟩
  · exact sm_int
  · exact sm_flat (.inr (.inl ⟨b, rfl⟩))
theorem odd_sm : ∀ d ∈ odds, Sm 4 d := by
  intro d hd
  simp only [odds, List.mem_cons, List.not_mem_nil, or_false] at hd
  rcases hd with rfl | rfl | rfl | rfl | rfl | rfl | rfl | rfl | rfl | rfl | rfl | rfl | rfl | rfl
  · exact sm_flat (.inl rfl)
  · exact sm_int
  · exact sm_int
  · exact sm_flat (.inr (.inl ⟨_, rfl⟩))
  · exact sm_flat (.inl (by decide +kernel))
  · exact sm_flat (.inl (by decide +kernel))
  · exact .inr (.inr (.inr (.inl rfl)))
  · exact sm_seq rfl (by simp) (by simp)
  · exact sm_seq rfl (by simp) (by simp)
  · refine sm_seq rfl (by simp) fun e he => ?_
    obtain rfl : e = .list [] := by simpa using he
    exact sm_seq rfl (by simp) (by simp)
  · exact sm_ints rfl (by simp) (by simp)
  · exact sm_ints rfl (by simp) (by simp)
  · refine sm_seq rfl (by simp) fun e he => ?_
    obtain rfl : e = .tuple [.list [], .tuple [.int 0, .int 1]] := by simpa using he
    refine sm_seq rfl (by simp) fun e he => ?_
    simp only [List.mem_cons, List.not_mem_nil, or_false] at he
    rcases he with rfl | rfl
    · exact sm_seq rfl (by simp) (by simp)
    · exact sm_ints rfl (by simp) (by simp)
  · exact sm_flat (.inr (.inr rfl))
theorem none_sm : ∀ d ∈ nones, Sm 4 d := by
  intro d hd
  simp only [nones, List.mem_cons, List.not_mem_nil, or_false] at hd
  rcases hd with rfl | rfl | rfl | rfl | rfl | rfl | rfl | rfl | rfl
  · exact sm_flat (.inl rfl)
  · exact sm_int
  · exact sm_ints rfl (by simp) (by simp)
  · exact sm_flat (.inr (.inl ⟨_, rfl⟩))
  · exact sm_flat (.inl (by decide +kernel))
  · exact sm_seq rfl (by simp) (by simp)
  · exact .inr (.inr (.inr (.inl rfl)))
  · exact sm_ints rfl (by simp) (by simp)
  · exact sm_ints rfl (by simp) (by simp)
/-- the three that are asked -/
def askNs : List Str := ["added", "least_of", "greatest_of"]
/-- a tag and a thing -/
def tg (tag : Str) (d : PyData) : PyData := .tuple [.str tag, d]
theorem sm_tg {tag : Str} {d : PyData} (ht : PyData.strOk tag = true) (h : Sm 4 d) : Sm 5 (tg tag d) := sm_seq rfl (by simp) fun e he => by
  simp only [List.mem_cons, List.not_mem_nil, or_false] at he
  rcases he with rfl | rfl
  · exact sm_flat (.inl ht)
  · exact h
def cu (i : Int) : PyData := tg "curves" (.int i)
/-- what is found behind n of the three -/
def loF (i : Int) : Nat → List PyData
  | 0 => []
  | n + 1 => loF i n ++ [cu i] ++ List.replicate 6 (cu 0)
theorem loF_len (i : Int) : ∀ n, (loF i n).length = 7 * n
  | 0 => rfl
  | n + 1 => by simp [loF, loF_len i n]; omega
theorem loF_mem (i : Int) : ∀ n, ∀ d ∈ loF i n, d = cu i ∨ d = cu 0
  | 0, d, h => by cases h
  | n + 1, d, h => by
    simp only [loF, List.mem_append, List.mem_singleton, List.mem_replicate] at h
    rcases h with (h | h) | h
    · exact loF_mem i n d h
    · exact .inl h
    · exact .inr h.2
theorem given_enc {u : Cur} (hc : Crv u.1) (hz : ∀ k ∈ u.1, Sz 1000 k.1 ∧ Sz 1000 k.2) (hs : Sz 1000 u.2) (hl : u.1.length ≤ 50000) : Given (encU u) u := by
  have f : ∀ {q : Rat}, Sz 1000 q → rawF (encF q) q := fun {q} h => ⟨q.num, q.den, rfl, den_pos q, h.1, by rw [Int.natAbs_natCast]; exact h.2, rat_eq q⟩
  refine ⟨⟨_, _, rfl, ⟨_, rfl, ?_⟩, f hs⟩, hc, hl⟩
  have : ∀ c : List Cor, (∀ k ∈ c, Sz 1000 k.1 ∧ Sz 1000 k.2) → Paired rawK (c.map encK) c := by
    intro c
    induction c with
    | nil => intro _; exact .nil
    | cons k c ih => intro h; exact .cons ⟨_, _, rfl, f (h k (List.mem_cons_self ..)).1, f (h k (List.mem_cons_self ..)).2⟩ (ih fun k' hk => h k' (List.mem_cons_of_mem _ hk))
  exact this _ hz
theorem given_one : Given (encU ([((0 : Rat), (1 : Rat))], 0)) ([((0 : Rat), (1 : Rat))], 0) := by
  have z0 : Sz 1000 (0 : Rat) := ⟨by decide, by decide⟩
  have z1 : Sz 1000 (1 : Rat) := ⟨by decide, by decide⟩
  refine given_enc ⟨⟨1, [], rfl⟩, trivial⟩ (fun k hk => ?_) z0 (by simp)
  obtain rfl : k = (0, 1) := by simpa using hk
  exact ⟨z0, z1⟩
theorem cut_toN {ds : List PyData} {n : Nat} (h : n ≤ ds.length) : cutD ds none (some (n : Int)) = ds.take n := by
  unfold cutD
  rw [HT.sIx_nat, show HT.sIx ds.length 0 none = 0 from rfl, Nat.min_eq_left h, List.drop_zero, Nat.sub_zero]
theorem cut_fromN {ds : List PyData} {n : Nat} (h : n ≤ ds.length) : cutD ds (some (n : Int)) none = ds.drop n := by
  unfold cutD
  rw [HT.sIx_nat, show HT.sIx ds.length ds.length none = ds.length from rfl, Nat.min_eq_left h]
  rw [List.take_of_length_le (by simp)]
section
variable {P : Program} {w : World} {K : PySem.W.Frag} {mg : Str → Option Value} {base : Heap} {TT : List (Addr × Str)}
def F_l_refused_right (ds : List PyData) (R : Res) : Prop := ∃ (us : List Cur) (g : PyData) (ps : List Cur), ds = [strD, .list (us.map encU), g] ∧ Givens g ps ∧ ps.length = us.length ∧ us.length ≤ 50 ∧ R = rD (.bool true)
abbrev N_l_refused_right : List Str := ["_law_stream_here", "_law_curves", "_law_given", "_law_odd_here", "_law_none", "_law_at", "_law_found", "_law_due", "_law_bad", "_law_ask", "_law_wrong", "_law_curve", "_law_held"]
abbrev P_l_refused_right : List Str := ["_law_stream_here", "_law_curves", "_law_given"]
theorem sc_l_refused_right : FnScope N_l_refused_right P_l_refused_right (defScope (top 90)) := ⟨rfl, rfl, rfl, by decide +kernel, rfl, by decide +kernel, by decide +kernel⟩
theorem ok_l_refused_right (T : Txt mg) (O : OddOk K) (EF : ExF K) (m1 : mg "BadCurve" = some (.ref (He.ga K "BadCurve"))) (m2 : mg "BadCurves" = some (.ref (He.ga K "BadCurves"))) (m3 : mg "BadFraction" = some (.ref (He.ga K "BadFraction")))
    (D_added : Def P w K mg base (L2.CX P w) 8 "added" P_added (spE TT K 0 F_added 1)) (D_least_of : Def P w K mg base (L2.CX P w) 10 "least_of" P_least_of (spE TT K 0 F_least_of 1)) (D_greatest_of : Def P w K mg base (L2.CX P w) 10 "greatest_of" P_greatest_of (spE TT K 0 F_greatest_of 1))
    (D_scaled : Def P w K mg base (L2.CX P w) 8 "scaled" P_scaled (spE TT K 0 F_scaled 2)) (D_difference : Def P w K mg base (L2.CX P w) 8 "difference" P_difference (spE TT K 0 F_difference 2)) (D_differenceX : Def P w K mg base (L2.CX P w) 8 "difference" P_difference (spX TT K 2))
    (D_l_same : Def P w K mg base CX0 8 "_law_same" P_l_same (spR TT K 0 (F_l_same 6) 2)) (D_l_odd : Def P w K mg base CX0 3 "_law_odd" P_l_odd (spR TT K 1 F_l_odd 1)) (D_l_pick : Def P w K mg base CX0 2 "_law_pick" P_l_pick (spR TT K 1 F_l_pick 2)) (D_l_draw : Def P w K mg base CX0 1 "_law_draw" P_l_draw (spR TT K 1 F_l_draw 2))
    (F_l_tried : At K mg "_law_tried" 86) (F : AtL K mg base TT "_law_refused_right" 90) : Def P w K mg base CX0 13 "_law_refused_right" P_l_refused_right (spR TT K 3 F_l_refused_right 3) := by
  have nd := sc_l_refused_right.nd
  have hu65 : ∀ {k A}, Room k A → A.units + 65 < cLine := fun r => by have := r.un; omega
  refine def_ofL F sc_l_refused_right (fun _ _ _ _ _ _ us hl => match us, hl with | [_, _, _], _ => rfl) (fun vs H Q E h => len_R h) (fun c Pt TB hmT hu A outer s H vs Q E hr h => ⟨_, (pss_cons (ps_asg (pe_tup (pa_cons (pe_callD D_l_odd hr (by decide) rfl pass0 (pa_cons (pv 0) pa_nil)) (pa_cons (pe_callD D_l_pick hr (by decide) rfl pass0 (pa_cons (pv 0) (pa_cons (pe_lst (pa_cons pe_non (pa_cons pe_int (pa_cons (pe_tup (pa_cons pe_int (pa_cons pe_int pa_nil))) (pa_cons pe_bl (pa_cons pe_str (pa_cons (pe_lst pa_nil) (pa_cons pe_dnewK (pa_cons (pe_tup (pa_cons pe_int (pa_cons pe_bl pa_nil))) (pa_cons (pe_tup (pa_cons pe_int (pa_cons pe_int (pa_cons pe_int pa_nil)))) pa_nil)))))))))) pa_nil))) pa_nil))) (pg_tup rfl (pgs_cons (pg_name (i := 3) nd rfl (Or.inr rfl)) (pgs_cons (pg_name (i := 4) nd rfl (Or.inr rfl)) pgs_nil))))
    (pss_cons (ps_par3 (i := 5) (j := 6) (l := 7) (by rfl) nd rfl rfl rfl (by decide) (by decide) (by decide) rfl rfl rfl (pa_cons (pe_callD D_l_draw hr (by decide) rfl pass0 (pa_cons (pv 0) (pa_cons (pe_op op_add (pe_callB call_len_seq (by rfl) T.fr_len bb_len (pa_cons (pv 1) pa_nil)) pe_int) pa_nil))) (pa_cons (pe_lst pa_nil) (pa_cons (pe_lst pa_nil) pa_nil))) (by rfl))
    (pss_cons (ps_set (i := 8) nd rfl (Or.inr rfl) (pe_op op_cat (pe_op op_cat (pe_slice (sl_list.or sl_tup) (pe_callTy call_list_of (by rfl) T.fr_list bb_list (pa_cons (pv 2) pa_nil)) po_none (po_some (pv 5))) (pe_lst (pa_cons (pv 3) (pa_cons pe_non pa_nil)))) (pe_slice (sl_list.or sl_tup) (pe_callTy call_list_of (by rfl) T.fr_list bb_list (pa_cons (pv 2) pa_nil)) (po_some (pv 5)) po_none)))
    (pss_cons (ps_for PassesOwn.never rfl (pi_seq (pe_tup (pa_cons (pe_glob (v := .ref (He.ga K "added")) rfl D_added.gm rfl) (pa_cons (pe_glob (v := .ref (He.ga K "least_of")) rfl D_least_of.gm rfl) (pa_cons (pe_glob (v := .ref (He.ga K "greatest_of")) rfl D_greatest_of.gm rfl) pa_nil))))) (pg_name (i := 9) nd rfl (Or.inr rfl)) (pss_cons (ps_expr (pe_bm PySem.F.plainAttrs_list PySem.F.slot_list_append PySem.F.type_list_append mt_append (pv 6) (pa_cons (pe_tried (k := 10) F_l_tried EF m1 m2 m3 TB rfl hmT hu hr (lamS_by (sc := defScope (top 90)) (by decide +kernel)) rfl (fun _ _ _ _ _ => rfl) rfl (fun _ _ _ _ _ _ _ hr2 => (pe_fn3K (K := K) rfl D_added D_least_of D_greatest_of hr2 (by decide) (by decide) (by decide) (passes_call (takes_of rfl rfl rfl rfl) fun _ _ _ _ h => h) (i := 9) rfl (.inr (.inr rfl)) (pa_cons (pv 8) pa_nil) rfl rfl))) pa_nil)))
    (pss_cons (ps_expr (pe_bm PySem.F.plainAttrs_list PySem.F.slot_list_append PySem.F.type_list_append mt_append (pv 7) (pa_cons (pe_tup (pa_cons pe_str (pa_cons (pv 5) pa_nil))) pa_nil)))
    (pss_one (ps_for PassesOwn.never rfl (pi_seq (pe_tup (pa_cons pe_non (pa_cons pe_int (pa_cons pe_str (pa_cons pe_dnewK (pa_cons pe_bl (pa_cons (pe_glob (v := .ref (He.ga K "_law_odd")) rfl D_l_odd.gm rfl) pa_nil)))))))) (pg_name (i := 10) nd rfl (Or.inr rfl)) (pss_cons (ps_expr (pe_bm PySem.F.plainAttrs_list PySem.F.slot_list_append PySem.F.type_list_append mt_append (pv 6) (pa_cons (pe_tried (k := 10) F_l_tried EF m1 m2 m3 TB rfl hmT hu hr (lamS_by (sc := defScope (top 90)) (by decide +kernel)) rfl (fun _ _ _ _ _ => rfl) rfl (fun _ _ _ _ _ _ _ hr2 => (pe_fn3K (K := K) rfl D_added D_least_of D_greatest_of hr2 (by decide) (by decide) (by decide) (passes_call (takes_of rfl rfl rfl rfl) fun _ _ _ _ h => h) (i := 9) rfl (.inr (.inr rfl)) (pa_cons (pv 10) pa_nil) rfl rfl))) pa_nil)))
    (pss_one (ps_expr (pe_bm PySem.F.plainAttrs_list PySem.F.slot_list_append PySem.F.type_list_append mt_append (pv 7) (pa_cons (pe_tup (pa_cons pe_str (pa_cons pe_int pa_nil))) pa_nil))))))))))
    (pss_cons (ps_expr (pe_bm PySem.F.plainAttrs_list PySem.F.slot_list_append PySem.F.type_list_append mt_append (pv 6) (pa_cons (pe_tried (k := 10) F_l_tried EF m1 m2 m3 TB rfl hmT hu hr (lamS_by (sc := defScope (top 90)) (by decide +kernel)) rfl (fun _ _ _ _ _ => rfl) rfl (fun _ _ _ _ _ _ _ hr2 => (pe_callD D_least_of hr2 (by decide) rfl (passes_call (takes_of rfl rfl rfl rfl) fun _ _ _ _ h => h) (pa_cons (pe_lst pa_nil) pa_nil)))) pa_nil)))
    (pss_cons (ps_expr (pe_bm PySem.F.plainAttrs_list PySem.F.slot_list_append PySem.F.type_list_append mt_append (pv 6) (pa_cons (pe_tried (k := 10) F_l_tried EF m1 m2 m3 TB rfl hmT hu hr (lamS_by (sc := defScope (top 90)) (by decide +kernel)) rfl (fun _ _ _ _ _ => rfl) rfl (fun _ _ _ _ _ _ _ hr2 => (pe_callD D_greatest_of hr2 (by decide) rfl (passes_call (takes_of rfl rfl rfl rfl) fun _ _ _ _ h => h) (pa_cons (pe_tup pa_nil) pa_nil)))) pa_nil)))
    (pss_cons (ps_asg (pe_tup (pa_cons (pe_tup (pa_cons (pe_lst (pa_cons (pe_tup (pa_cons (pe_tup (pa_cons pe_int (pa_cons pe_int pa_nil))) (pa_cons (pe_tup (pa_cons pe_int (pa_cons pe_int pa_nil))) pa_nil))) pa_nil)) (pa_cons (pe_tup (pa_cons pe_int (pa_cons pe_int pa_nil))) pa_nil))) (pa_cons (pe_lst (pa_cons pe_non pa_nil)) pa_nil))) (pg_tup rfl (pgs_cons (pg_name (i := 11) nd rfl (Or.inr rfl)) (pgs_cons (pg_name (i := 12) nd rfl (Or.inr rfl)) pgs_nil))))
    (pss_cons (ps_expr (pe_bm PySem.F.plainAttrs_list PySem.F.slot_list_append PySem.F.type_list_append mt_append (pv 6) (pa_cons (pe_tried (k := 10) F_l_tried EF m1 m2 m3 TB rfl hmT hu hr (lamS_by (sc := defScope (top 90)) (by decide +kernel)) rfl (fun _ _ _ _ _ => rfl) rfl (fun _ _ _ _ _ _ _ hr2 => (pe_callD D_scaled hr2 (by decide) rfl (passes_call (takes_of rfl rfl rfl rfl) fun _ _ _ _ h => h) (pa_cons (pv 3) (pa_cons (pv 4) pa_nil))))) pa_nil)))
    (pss_cons (ps_expr (pe_bm PySem.F.plainAttrs_list PySem.F.slot_list_append PySem.F.type_list_append mt_append (pv 6) (pa_cons (pe_tried (k := 10) F_l_tried EF m1 m2 m3 TB rfl hmT hu hr (lamS_by (sc := defScope (top 90)) (by decide +kernel)) rfl (fun _ _ _ _ _ => rfl) rfl (fun _ _ _ _ _ _ _ hr2 => (pe_callD D_scaled hr2 (by decide) rfl (passes_call (takes_of rfl rfl rfl rfl) fun _ _ _ _ h => h) (pa_cons (pv 11) (pa_cons (pv 4) pa_nil))))) pa_nil)))
    (pss_cons (ps_expr (pe_bm PySem.F.plainAttrs_list PySem.F.slot_list_append PySem.F.type_list_append mt_append (pv 6) (pa_cons (pe_tried (k := 10) F_l_tried EF m1 m2 m3 TB rfl hmT hu hr (lamS_by (sc := defScope (top 90)) (by decide +kernel)) rfl (fun _ _ _ _ _ => rfl) rfl (fun _ _ _ _ _ _ _ hr2 => (pe_callD D_differenceX hr2 (by decide) rfl (passes_call (takes_of rfl rfl rfl rfl) fun _ _ _ _ h => h) (pa_cons (pv 12) (pa_cons (pv 3) pa_nil))))) pa_nil)))
    (pss_cons (ps_expr (pe_bm PySem.F.plainAttrs_list PySem.F.slot_list_append PySem.F.type_list_append mt_append (pv 6) (pa_cons (pe_tried (k := 10) F_l_tried EF m1 m2 m3 TB rfl hmT hu hr (lamS_by (sc := defScope (top 90)) (by decide +kernel)) rfl (fun _ _ _ _ _ => rfl) rfl (fun _ _ _ _ _ _ _ hr2 => (pe_callD D_difference hr2 (by decide) rfl (passes_call (takes_of rfl rfl rfl rfl) fun _ _ _ _ h => h) (pa_cons (pv 11) (pa_cons (pv 3) pa_nil))))) pa_nil)))
    (pss_cons (ps_expr (pe_bm PySem.F.plainAttrs_list PySem.F.slot_list_append PySem.F.type_list_append mt_append (pv 12) (pa_cons pe_str pa_nil)))
    (pss_cons (ps_expr (pe_bm PySem.F.plainAttrs_list PySem.F.slot_list_extend PySem.F.type_list_extend mt_extend (pv 7) (pa_cons (pe_op op_cat (pe_op op_rep (pe_lst (pa_cons (pe_tup (pa_cons pe_str (pa_cons pe_int pa_nil))) pa_nil)) pe_int) (pe_lst (pa_cons (pe_tup (pa_cons pe_str (pa_cons (pv 3) pa_nil))) (pa_cons (pe_tup (pa_cons pe_str (pa_cons (pv 4) pa_nil))) (pa_cons (pe_tup (pa_cons pe_str (pa_cons (pe_lst (pa_cons pe_non (pa_cons pe_str pa_nil))) pa_nil))) (pa_cons (pe_tup (pa_cons pe_str (pa_cons (pv 3) pa_nil))) pa_nil)))))) pa_nil)))
    (pss_one (ps_ret (pe_callD D_l_same hr (by decide) rfl pass0 (pa_cons (pv 6) (pa_cons (pv 7) pa_nil)))))))))))))))))), read_R ?_ h⟩)
  rintro S ds R ⟨us, g, ps, rfl, hg, hpl, hul, rfl⟩ _
  obtain ⟨es, eg, hpg, _⟩ := hg.ex
  have hel : es.length = us.length := (Paired.len hpg).trans hpl
  refine hasS_le (c1 := _ + 1) (hasS_seq_asgN (has_tupN (has_consN (P := (· ∈ odds)) (has_callR (c2 := 1) (has_cons (has_var rfl) has_nil) fun l e => ⟨by rw [e]; rfl, _, ⟨e, rfl⟩, fun _ _ _ _ h => h⟩) (has_consN (has_pickC (xs := nones) (has_cons (has_var rfl) (has_cons (has_lst (has_cons has_non (has_cons has_int (has_cons (has_tup (has_cons has_int (has_cons has_int has_nil)) (by simp)) (has_cons has_bl (has_cons has_str (has_cons (has_lst has_nil (by simp)) (has_cons has_emp (has_cons (has_tup (has_cons has_int (has_cons has_bl has_nil)) (by simp)) (has_cons (has_tup (has_cons has_int (has_cons has_int (has_cons has_int has_nil))) (by simp)) has_nil))))))))) (show nones.length ≤ 100000 by decide)) has_nil)) (by decide) (by decide)) has_nil)) ?_) ?_) (by decide)
  · rintro ds ⟨_, _, rfl, _, _, _, rfl, _, rfl⟩; simp
  rintro d ⟨ds, rfl, od, _, rfl, hod, no, _, rfl, hno, rfl⟩
  refine ⟨_, _, g_tup (gs_cons g_name (gs_cons g_name gs_nil)) rfl, ?_⟩
  refine hasS_le (c1 := _ + 0) (hasS_seq_parD (has_drawC (n := (us.map encU).length + 1) (has_cons (has_var rfl) (has_cons (has_i2 (f := fun i j => i + j) (has_len (has_var rfl) rfl) has_int) has_nil)) (by omega) (by rw [List.length_map]; omega)) fun d ⟨i, e, h0, h1⟩ F D => ?_) (by decide)
  subst e
  obtain ⟨at_, rfl⟩ := Int.eq_ofNat_of_zero_le h0
  have hat : at_ ≤ es.length := by rw [List.length_map] at h1; omega
  obtain ⟨od1, od2⟩ := odd_bad od hod
  obtain ⟨no1, no2⟩ := none_bad no hno
  generalize hbad : (es.take at_ ++ [od, .none]) ++ es.drop at_ = bad
  have hlb : bad.length = es.length + 2 := by rw [← hbad]; simp; omega
  refine hasS_le (c1 := _ + 0) (hasS_seq_set (τ2 := tyD ⟨K, TT, S⟩ (.list bad)) (has_conv (has_cat (has_cat (has_sl (has_list (has_var rfl) eg) ho_none (ho_some (has_var rfl))) (has_lst (has_cons (has_var rfl) (has_cons has_non has_nil)) (by simp)) ?_) (has_sl (has_list (has_var rfl) eg) (ho_some (has_var rfl)) ho_none) ?_) ?_) ?_) (by decide)
  · rw [cut_toN hat]; simp; omega
  · rw [cut_toN hat, cut_fromN hat]; simp; omega
  · rw [cut_toN hat, cut_fromN hat, hbad]
  -- what is known
  have cb : clean (.list bad) = true := by
    have ce : cleanAll es = true := cleanAll_of fun e he => by
      have : ∀ {es : List PyData} {ps : List Cur}, Paired Given es ps → ∀ e ∈ es, clean e = true := by
        intro es ps h
        induction h with
        | nil => intro e h; cases h
        | cons h _ ih =>
          intro e he
          rcases List.mem_cons.mp he with z | z
          · rw [z]; exact h.raw.clean
          · exact ih e z
      exact this hpg e he
    rw [← hbad]
    exact cleanAll_app (cleanAll_app (cleanAll_of fun e he => cleanAll_mem ce e (List.mem_of_mem_take he)) (by simp [cleanAll, od1, clean])) (cleanAll_of fun e he => cleanAll_mem ce e (List.mem_of_mem_drop he))
  have chk : ∀ n : Nat, n ≤ 1 → F_checked_curves [.list bad, .int n] (.err "BadCurves" "index" (.int (at_ : Nat))) := fun n hn => .inr (.inr ⟨.list bad, es.take at_, ps.take at_, od, .none :: es.drop at_, n, rfl, cb, by rw [← hbad]; simp [seqD], by
    have : (es.take at_ ++ od :: .none :: es.drop at_).length = bad.length := by rw [← hbad]; simp
    rw [this]; omega, Paired.take at_ hpg, od1, od2, by rw [List.length_take, Nat.min_eq_left hat]⟩)
  have chw : ∀ x ∈ wrongs, ∀ n : Nat, F_checked_curves [x, .int n] (.err "BadCurves" "index" (.int 0)) := fun x hx n => .inr (.inl ⟨x, n, rfl, (wrong_bad x hx).1, (fun es e => by rw [(wrong_bad x hx).2] at e; cases e), rfl⟩)
  have che : ∀ x : PyData, clean x = true → seqD x = some [] → F_fold true [x] (.err "BadCurves" "index" (.int 0)) ∧ F_fold false [x] (.err "BadCurves" "index" (.int 0)) := fun x hc he => by
    have : F_checked_curves [x, .int (1 : Nat)] (.err "BadCurves" "index" (.int 0)) := .inr (.inl ⟨x, 1, rfl, hc, (fun es e => by rw [he] at e; cases e; simp), rfl⟩)
    exact ⟨.inr ⟨x, _, rfl, this, rfl⟩, .inr ⟨x, _, rfl, this, rfl⟩⟩
  have asks : ∀ nm ∈ askNs, ∀ (x iv : PyData), (∀ n : Nat, n ≤ 1 → F_checked_curves [x, .int n] (.err "BadCurves" "index" iv)) → (nm = "added" ∧ F_added [x] (.err "BadCurves" "index" iv)) ∨ (nm = "least_of" ∧ F_least_of [x] (.err "BadCurves" "index" iv)) ∨ (nm = "greatest_of" ∧ F_greatest_of [x] (.err "BadCurves" "index" iv)) := fun nm hnm x iv h => by
    simp only [askNs, List.mem_cons, List.not_mem_nil, or_false] at hnm
    rcases hnm with rfl | rfl | rfl
    · exact .inl ⟨rfl, .inr ⟨x, iv, rfl, h 0 (by omega), rfl⟩⟩
    · exact .inr (.inl ⟨rfl, .inr ⟨x, iv, rfl, h 1 (by omega), rfl⟩⟩)
    · exact .inr (.inr ⟨rfl, .inr ⟨x, iv, rfl, h 1 (by omega), rfl⟩⟩)
  have tC : (("BadCurves", "index", "curves") : Str × Str × Str) ∈ tags := by simp [tags]
  have tK : (("BadCurve", "thing", "curve") : Str × Str × Str) ∈ tags := by simp [tags]
  have tF : (("BadFraction", "thing", "fraction") : Str × Str × Str) ∈ tags := by simp [tags]
  let Γ1 : Option Ty → Option Ty → Cxt := fun a b => [some (tyD ⟨K, TT, S⟩ strD), some (tyD ⟨K, TT, S⟩ (.list (us.map encU))), some (tyD ⟨K, TT, S⟩ g), some (tyD ⟨K, TT, S⟩ od), some (tyD ⟨K, TT, S⟩ no), some (tyD ⟨K, TT, S⟩ (.int (at_ : Nat))), some (tyV (.ref F)), some (tyV (.ref D)), some (tyD ⟨K, TT, S⟩ (.list bad)), a, b, none, none]
  have szL : ∀ n, n ≤ 3 → (loF (at_ : Nat) n).length ≤ 30 := fun n hn => by rw [loF_len]; omega
  refine hasS_swap (hasS_0 (hasS_seq (c2 := 0) (Γ1 := Γ1 none none) (A1 := [(F, loF (at_ : Nat) 3), (D, loF (at_ : Nat) 3)])
    (hasS_for (c := 0) askNs gloD (fun _ => Γ1 none none) (fun pre => [(F, loF (at_ : Nat) pre.length), (D, loF (at_ : Nat) pre.length)])
      (i_seq (has_tup (has_cons has_glo (has_cons has_glo (has_cons has_glo has_nil))) (by simp)) rfl) (Wk.refl _) rfl (fun _ => rfl) (fun pre nm suf ex => ⟨_, _, g_name, ?_⟩) fun Γ' w => ⟨w, rfl⟩) ?_) rfl)
  · have hnm : nm ∈ askNs := by rw [ex]; simp
    have hpre : pre.length ≤ 2 := by
      have := congrArg List.length ex
      simp [askNs] at this; omega
    have hA := szL pre.length (by omega)
    refine hasS_0 (hasS_seq (c2 := 0) (hasS_append (d := cu (at_ : Nat)) rfl (has_tried tC fun E => hasER_fn rfl (has_cons (has_var rfl) has_nil) rfl (asks nm hnm (.list bad) (.int (at_ : Nat)) chk)) (by omega) rfl to_here)
      (hasS_0 (hasS_seq (c2 := 0) (hasS_append2 rfl (has_tup (has_cons has_str (has_cons (has_var rfl) has_nil)) (by simp)) (by omega) to_here)
        (hasS_0 (hasS_for (c := 0) wrongs id (fun _ => Γ1 (some (tyD ⟨K, TT, S⟩ (gloD nm))) none) (fun pre' => [(F, loF (at_ : Nat) pre.length ++ [cu (at_ : Nat)] ++ List.replicate pre'.length (cu 0)), (D, loF (at_ : Nat) pre.length ++ [cu (at_ : Nat)] ++ List.replicate pre'.length (cu 0))])
          (i_conv (i_seq (has_tup (has_cons has_non (has_cons has_int (has_cons has_str (has_cons has_emp (has_cons has_bl (has_cons has_fn has_nil)))))) (by simp)) rfl) (List.map_id wrongs).symm) (Wk.refl _) ?_ (fun _ => rfl) (fun pre' x suf' ex' => ⟨_, _, g_name, ?_⟩) fun Γ' w => ⟨?_, ?_⟩) ?_)) rfl)) rfl
    · simp only [List.length_nil, List.replicate_zero, List.append_nil]; rfl
    · have hx : x ∈ wrongs := by rw [ex']; simp
      have hpre' : pre'.length ≤ 5 := by
        have := congrArg List.length ex'
        simp [wrongs] at this; omega
      have hB : (loF (at_ : Nat) pre.length ++ [cu (at_ : Nat)] ++ List.replicate pre'.length (cu 0)).length ≤ 40 := by simp; omega
      refine hasS_0 (hasS_seq (c2 := 0) (hasS_append (d := cu 0) rfl (has_tried tC fun E => hasER_fn rfl (has_cons (has_var rfl) has_nil) rfl (asks nm hnm x (.int 0) fun n _ => chw x hx n)) (by omega) rfl to_here)
        (hasS_append2 rfl (has_tup (has_cons has_str (has_cons has_int has_nil)) (by simp)) (by omega) ⟨.same (.same (.same (.same (.same (.same (.same (.same (.same (.same (.drop (.same (.same .nil)))))))))))), ?_⟩)) rfl
      rw [List.length_append, List.length_singleton, List.replicate_succ', ← List.append_assoc]; rfl
    · exact w.trans (.same (.same (.same (.same (.same (.same (.same (.same (.same (.drop (.same (.same (.same .nil)))))))))))))
    · rw [List.length_append, List.length_singleton]; rfl
    · rfl
  -- behind the loop
  have hA := szL 3 (by omega)
  have oneF : ∀ {Γ : Cxt} {l : Addr} {ds : List PyData} {A : Own} {te : TE} {d : PyData} {rest : TS} {R : Res}, Γ[6]? = some (some (tyV (.ref l))) → HasE ⟨K, TT, S⟩ 0 te Γ (tyD ⟨K, TT, S⟩ d) → ds.length ≤ 60 → HasS ⟨K, TT, S⟩ 0 rest Γ ((l, ds ++ [d]) :: A) nvr R → HasS ⟨K, TT, S⟩ 0 (tSeq (tDrop (tBM K "list" rAppend (tVar 6) (tCons te tNil))) rest) Γ ((l, ds) :: A) nvr R := fun hg he hz hr => hasS_0 (hasS_seq (hasS_append hg he (by omega) rfl to_here) hr) rfl
  have twoF : ∀ {Γ : Cxt} {l : Addr} {ds : List PyData} {A : Own} {p : Addr × List PyData} {te : TE} {d : PyData} {rest : TS} {R : Res}, Γ[6]? = some (some (tyV (.ref l))) → HasE ⟨K, TT, S⟩ 0 te Γ (tyD ⟨K, TT, S⟩ d) → ds.length ≤ 60 → HasS ⟨K, TT, S⟩ 0 rest Γ (p :: (l, ds ++ [d]) :: A) nvr R → HasS ⟨K, TT, S⟩ 0 (tSeq (tDrop (tBM K "list" rAppend (tVar 6) (tCons te tNil))) rest) Γ (p :: (l, ds) :: A) nvr R := fun hg he hz hr => hasS_0 (hasS_seq (hasS_append2 hg he (by omega) to_here) hr) rfl
  refine oneF (d := cu 0) rfl (has_tried tC fun E => hasER_call (c1 := 0) (c2 := 0) (has_cons (has_lst has_nil (by simp)) has_nil) rfl (che (.list []) rfl rfl).1) (by omega) ?_
  refine oneF (d := cu 0) rfl (has_tried tC fun E => hasER_call (c1 := 0) (c2 := 0) (has_cons (has_tup has_nil (by simp)) has_nil) rfl (che (.tuple []) rfl rfl).2) (by simp; omega) ?_
  refine hasS_0 (hasS_seq_held (c2 := 0) (d := encU ([((0 : Rat), (1 : Rat))], 0)) (has_tup (has_cons (has_lst (has_cons (has_tup (has_cons (has_tup (has_cons has_int (has_cons has_int has_nil)) (by simp)) (has_cons (has_tup (has_cons has_int (has_cons has_int has_nil)) (by simp)) has_nil)) (by simp)) has_nil) (by simp)) (has_cons (has_tup (has_cons has_int (has_cons has_int has_nil)) (by simp)) has_nil)) (by simp)) fun l => ?_) rfl
  refine twoF (d := tg "curve" od) rfl (has_tried tK fun E => hasER_call (c1 := 0) (c2 := 0) (has_cons (has_var rfl) (has_cons (has_var rfl) has_nil)) rfl (.inr (.inl ⟨od, no, rfl, od1, od2, rfl⟩))) (by simp; omega) ?_
  refine twoF (d := tg "fraction" no) rfl (has_tried tF fun E => hasER_call (c1 := 0) (c2 := 0) (has_cons (has_var rfl) (has_cons (has_var rfl) has_nil)) rfl (.inr (.inr ⟨_, no, _, rfl, given_one, no1, no2, rfl⟩))) (by simp; omega) ?_
  refine hasS_0 (hasS_held (n := 6) (j := 12) (c1 := 0) (c2 := 0) (c4 := 0) (tag := "curve") (e8 := tg "curve" od) rfl rfl (by decide) (has_triedX tK fun E => hasER_callX (c1 := 0) (c2 := 0) (d := .list [.none]) (has_var rfl) (has_cons (has_var rfl) has_nil) rfl rfl rfl) (has_tried tK fun E => hasER_call (c1 := 0) (c2 := 0) (has_cons (has_var rfl) (has_cons (has_var rfl) has_nil)) rfl (.inr (.inr ⟨_, od, _, rfl, given_one, od1, od2, rfl⟩))) (by simp; omega) ?_) rfl
  have eF : loF (at_ : Nat) 3 ++ [cu 0] ++ [cu 0] ++ [tg "curve" od] ++ [tg "fraction" no] ++ [PyData.tuple [.str "curve", .list [.none, .str "late"]], tg "curve" od] = loF (at_ : Nat) 3 ++ ((List.replicate 2 [PyData.tuple [.str "curves", .int 0]]).flatten ++ [.tuple [.str "curve", od], .tuple [.str "fraction", no], .tuple [.str "curve", .list [.none, .str "late"]], .tuple [.str "curve", od]]) := by
    simp only [List.append_assoc]; rfl
  have hlen : (loF (at_ : Nat) 3).length = 21 := loF_len _ 3
  refine hasS_swap (hasS_0 (hasS_seq (c1 := 0) (c2 := 0) (hasS_extend (n := 7) rfl (has_cat (has_repN (m := 2) (has_lst (has_cons (has_tup (has_cons has_str (has_cons has_int has_nil)) (by simp)) has_nil) (by simp)) (by simp) (by decide)) (has_lst (has_cons (has_tup (has_cons has_str (has_cons (has_var rfl) has_nil)) (by simp)) (has_cons (has_tup (has_cons has_str (has_cons (has_var rfl) has_nil)) (by simp)) (has_cons (has_tup (has_cons has_str (has_cons (has_lst (has_cons has_non (has_cons has_str has_nil)) (by simp)) has_nil)) (by simp)) (has_cons (has_tup (has_cons has_str (has_cons (has_var rfl) has_nil)) (by simp)) has_nil)))) (by simp)) (by simp)) (by simp; omega) rfl to_here) ?_) rfl)
  refine hasS_drop (n := 7) rfl (hasS_drop (n := 6) rfl (hasS_0 (hasS_ret (has_callR (c2 := 0) (has_cons (has_var rfl) (has_cons (has_var rfl) has_nil)) fun l e => ⟨by rw [e]; rfl, rD (.bool true), ⟨_, e.trans (congrArg (fun z => [PyData.list z, _]) eF), ?_, rfl⟩, fun _ _ _ _ h => h⟩)) rfl))
  refine sm_seq rfl (by simp; omega) fun d hd => ?_
  rcases List.mem_append.mp hd with h | h
  · rcases loF_mem _ _ _ h with rfl | rfl
    · exact sm_tg (by decide +kernel) sm_int
    · exact sm_tg (by decide +kernel) sm_int
  · simp only [List.replicate, List.flatten_cons, List.flatten_nil, List.append_nil, List.cons_append, List.nil_append, List.mem_cons, List.not_mem_nil, or_false] at h
    rcases h with rfl | rfl | rfl | rfl | rfl | rfl
    · exact sm_tg (by decide +kernel) sm_int
    · exact sm_tg (by decide +kernel) sm_int
    · exact sm_tg (by decide +kernel) (odd_sm od hod)
    · exact sm_tg (by decide +kernel) (none_sm no hno)
    · refine sm_tg (by decide +kernel) (sm_seq rfl (by simp) fun e he => ?_)
      simp only [List.mem_cons, List.not_mem_nil, or_false] at he
      rcases he with rfl | rfl
      · exact sm_flat (.inl rfl)
      · exact sm_flat (.inl (by decide +kernel))
    · exact sm_tg (by decide +kernel) (odd_sm od hod)
end
end Q6
end
section
set_option maxHeartbeats 4000000
/-! A lambda with one parameter, called in the def to which it was handed. -/
namespace Q6
open PySem PySem.Spec PyProof.Rows L2 LamX
/-- its names: the parameter, captured ones, globals -/
structure LamS1 (sc scope : Scope) (a : Str) : Prop where
  kind : scope.kind = .function
  co : scope.isCoroutine = false
  gen : scope.isGenerator = false
  own : ∀ y ∈ scope.names, y.2 ≠ .cell ∧ (y.2 = .local → y.1 = a)
  here : scope.names.lookup a = some .local
  free : ∀ y ∈ scope.names, y.2 = .free → sc.names.lookup y.1 = some .cell ∨ sc.names.lookup y.1 = some .free
def lamS1B (sc scope : Scope) (a : Str) : Bool :=
  decide (scope.kind = .function) && (!scope.isCoroutine && (!scope.isGenerator && (decide (scope.names.lookup a = some .local) && scope.names.all fun y => !decide (y.2 = .cell) && ((!decide (y.2 = .local) || decide (y.1 = a)) && (!decide (y.2 = .free) || (decide (sc.names.lookup y.1 = some .cell) || decide (sc.names.lookup y.1 = some .free)))))))
theorem lamS1_by {sc scope : Scope} {a : Str} (h : lamS1B sc scope a = true) : LamS1 sc scope a := by
  unfold lamS1B at h
  simp only [Bool.and_eq_true, Bool.or_eq_true, Bool.not_eq_true', decide_eq_true_eq, decide_eq_false_iff_not, List.all_eq_true] at h
  obtain ⟨h1, h2, h3, h4, h5⟩ := h
  refine ⟨h1, h2, h3, fun y hy => ⟨(h5 y hy).1, fun e => (h5 y hy).2.1.resolve_left fun z => z e⟩, h4, fun y hy e => (h5 y hy).2.2.resolve_left fun z => z e⟩
theorem LamS1.has {X : Cx} {scope : Scope} {a : Str} (L : LamS1 X.env.scope scope a) (ok : X.Ok) : ∀ y ∈ scope.names, y.2 = .free → ∃ c, X.env.cells.lookup y.1 = some c := fun y hy e => ok.has _ (L.free y hy e)
section
variable {X : Cx} {pins : List (Addr × Obj)} {σ : L2.St} {H HZ : Hp} {s s1 : Shared}
theorem lam1_start {A : Around} {outer : List Env} {E : XK} {scope : Scope} {f c' : Addr} {h1 : Heap} {tk i : Nat} {a : Str} {v : V} {u : Value} (I : L2.Inv X pins σ H s) (L : LamS1 X.env.scope scope a) (e0 : Env0 X.prog X.w X.K X.mg X.base A outer s1 HZ) (hd : A.handled = none)
    (un : Un (frs X.stack) [] H HZ s.heap s1.heap) (hns : h1.Ns s1.heap.objs.size fun y => ([(a, u)] : List (Str × Value)).reverse.lookup y) (kp : ∀ b o, s1.heap.get? b = some o → h1.get? b = some o) (hN : X.N[i]? = some a) (hnd : X.N.Nodup) (ru : L2.RelV v u) :
    L2.Inv (lamCx X A outer s1 HZ E scope f c') [] (σ.set i (some v)) HZ { s1 with heap := h1, toks := tk } := by
  have hfree := L.has I.ok
  have back : ∀ {y c}, (cloFrom X.env.cells scope.names []).lookup y = some c → X.env.cells.lookup y = some c := fun {y c} e => by
    rcases cloFrom_mem (PySem.mem_of_lookup e) with z | ⟨z1, z2⟩
    · cases z
    · obtain ⟨c1, hc⟩ := hfree _ z1 rfl
      have hc : X.env.cells.lookup y = some c1 := hc
      have e2 : c = c1 := by rw [z2, hc] <;> rfl
      rw [e2]; exact hc
  have there : ∀ {y}, scope.names.lookup y = some .free → ∃ c, (cloFrom X.env.cells scope.names []).lookup y = some c := fun {y} hl =>
    L2.mem_lookup (cloFrom_has (cells := X.env.cells) (acc := []) (PySem.mem_of_lookup hl : (y, NameKind.free) ∈ scope.names))
  have stay : ∀ {c : Addr} {w : Option Value}, H c = none → s.heap.IsCell c w → h1.IsCell c w := fun {c w} n ⟨o, ho, hdt⟩ => by
    obtain ⟨sl, q⟩ := un.any ho n (by simp)
    exact ⟨_, kp _ _ q, hdt⟩
  have none_ : ∀ b : Addr, b ∉ (lamCx X A outer s1 HZ E scope f c').ex := fun b z => absurd (show b ∈ ([] : List Addr) from z) (by simp)
  have okL : (lamCx X A outer s1 HZ E scope f c').Ok := by
    refine ⟨e0.mod, L.kind, rfl, rfl, Nat.le_refl _, fun y z c e1 e2 => I.ok.inj y z c (back e1) (back e2), fun y hy => ?_, fun y c z _ => absurd (show false = true from z) Bool.false_ne_true, fun _ => hd, Around.frames_deeper e0.frames, .inr ⟨rfl, rfl⟩, fun b z => absurd z (none_ b), e0.bs, e0.bsz, fun b _ _ => none_ b, fun b z => absurd z (none_ b), e0.funs, e0.frf⟩
    have hy : scope.names.lookup y = some .cell ∨ scope.names.lookup y = some .free := hy
    exact hy.elim (fun z => absurd rfl (L.own _ (PySem.mem_of_lookup z)).1) there
  refine ⟨okL, rfl, e0.bare, Un.kept kp, ⟨_, hns, fun j y w e1 e2 e3 => ?_⟩, fun y c e => ?_, e0.hok.fresh (Nat.le_refl _), fun y c e => ?_, fun q hq => absurd (show q ∈ ([] : List (Addr × Obj)) ++ [] from hq) (by simp), e0.hok.kept kp, by rw [List.length_set]; exact I.len⟩
  · have e1 : X.N[j]? = some y := e1
    have e3 : Vis scope y := e3
    by_cases hj : i = j
    · subst hj
      rw [hN] at e1
      cases e1
      have hlt : i < σ.length := by
        rw [I.len]
        exact (List.getElem?_eq_some_iff.mp hN).1
      rw [List.getElem?_set_self hlt] at e2
      cases e2
      exact ⟨u, ru, .inl ⟨L.here, by simp⟩⟩
    · rw [List.getElem?_set_ne hj] at e2
      have ya : y ≠ a := fun z => by
        rw [z] at e1
        exact hj (L2.nodup_ix hnd hN e1)
      rcases e3 with z | z | z
      · exact absurd ((L.own _ (PySem.mem_of_lookup z)).2 rfl) ya
      · exact absurd rfl (L.own _ (PySem.mem_of_lookup z)).1
      · obtain ⟨m, hn, hl⟩ := I.loc
        have fr := L.free _ (PySem.mem_of_lookup z) rfl
        obtain ⟨w', r, q⟩ := hl j y w e1 e2 (.inr fr)
        obtain ⟨c2, h2⟩ := there z
        refine ⟨w', r, .inr ⟨.inr z, c2, h2, ?_⟩⟩
        rcases q with ⟨z2, _⟩ | ⟨_, c3, e', q⟩
        · have z2 : X.env.scope.names.lookup y = some .local := z2
          rcases fr with z3 | z3 <;> rw [show X.env.scope.names.lookup y = _ from z3] at z2 <;> cases z2
        · rw [back h2] at e'
          cases e'
          exact stay (I.freeC y _ (back h2)) q
  · obtain ⟨w', z⟩ := I.cell y c (back e)
    exact ⟨w', stay (I.freeC y c (back e)) z⟩
  · obtain ⟨w', o, ho, _⟩ := I.cell y c (back e)
    exact un.free c o ho (I.freeC y c (back e)) (by simp)
/-- the call of it; σ: the maker's slots, iw: the parameter's slot among the maker's -/
def tLamC (σ : L2.St) (j iw : Nat) (f c' : Addr) (q : Str) (tb : TE) (t : TA) : TE := fun σZ HZ Q => σZ[j]? = some (some (.ref f)) ∧ t σZ HZ fun vs H1 => ∃ v, vs = [v] ∧ H1 c' = some (CodeO c' q) ∧ tb (σ.set iw (some v)) H1 Q
theorem pe_act1 {Ng : List Str} {qg : Str} {sg : Scope} {g f c' : Addr} {cdg pm ctv : Value} {params : Arguments} {body : Expr} {scope : Scope} {k j iw : Nat} {x a : Str} {tb : TE} {p1 p2 : Pos} {e : Expr} {t : TA}
    (I : L2.Inv X pins σ H s) (L : LamS1 X.env.scope scope a) (hf : s.heap.get? f = some (PySem.W.kla_obj "<lambda>" (X.env.qual ++ "<lambda>") params body scope (cloFrom X.env.cells scope.names []) pm c' ctv)) (hfn : H f = none) (hfr : f ∉ frs X.stack)
    (hbind : ∀ u : Value, bindArgs (PySem.W.kla_fn "<lambda>" (X.env.qual ++ "<lambda>") params body scope (cloFrom X.env.cells scope.names []) pm (.ref c') ctv) ⟨[u], []⟩ = pure [(a, u)]) (hiw : X.N[iw]? = some a) (hnd : X.N.Nodup)
    (hr : Room (k + 1) (X.A.deeper (envOfC qg sg s.heap.objs.size g cdg)))
    (hbody : ∀ (A : Around) (outer : List Env) (s : Shared) (H : Hp), Room k (A.deeper (lamEnv X scope s.heap.objs.size f c')) → PE (lamCx X A outer s H E0 scope f c') body tb)
    (ha : PA (cxOf CX0 X.prog X.w X.K X.mg X.base Ng qg sg g cdg X.A X.stack s H E0).nox [e] t) (hst : starEach [e] (envOfC qg sg s.heap.objs.size g cdg) = [(false, eval e (envOfC qg sg s.heap.objs.size g cdg))])
    (hN : Ng[j]? = some x) (hv : Vis sg x) (hdb : (x == ("__debug__" : Str)) = false) (hcd : (x == ("__classdict__" : Str)) = false) :
    PE (cxOf CX0 X.prog X.w X.K X.mg X.base Ng qg sg g cdg X.A X.stack s H E0).nox (.Call (.Name x p1) [e] [] p2) (tLamC σ j iw f c' (X.env.qual ++ "<lambda>") tb t) := by
  refine ⟨fun pinsZ sZ σZ HZ Q IZ h => ?_⟩
  obtain ⟨hs, ht⟩ := h
  refine wpAny_Call_Name_kw (thn ((pe_var (pos := p1) (i := j) hN hv hdb hcd).run pinsZ sZ σZ HZ (fun v H1 => v = .ref f ∧ H1 = HZ) IZ ⟨.ref f, hs, rfl, rfl⟩) fun u s1 ⟨v, H1, I1, r1, q1⟩ => ?_)
  obtain ⟨ev, eH⟩ := q1
  subst ev
  rw [eH] at I1
  obtain rfl : u = Value.ref f := r1
  have objAt : ∀ {s' : Shared} {pins' : List (Addr × Obj)} {σ' : L2.St} {H' : Hp}, L2.Inv (cxOf CX0 X.prog X.w X.K X.mg X.base Ng qg sg g cdg X.A X.stack s H E0).nox pins' σ' H' s' → s'.heap.get? f = some (PySem.W.kla_obj "<lambda>" (X.env.qual ++ "<lambda>") params body scope (cloFrom X.env.cells scope.names []) pm c' ctv) := fun J => J.base.keep f _ hf hfn hfr (fun z => nomatch (show f ∈ ([] : List Addr) from z))
  refine PySem.W.callWith_F (e := e) (rest := []) ⟨_, _, _, _, objAt I1⟩ (thn (ha.run p2 pinsZ s1 σZ HZ _ I1 ht) fun us s2 ⟨vs, H2, I2, r, v2, evs, hc, hq⟩ => ?_) hst rfl
  subst evs
  obtain ⟨u2, rfl, ru⟩ := r.one
  refine ⟨⟨_, _, _, _, objAt I2⟩, ?_⟩
  have un : Un (frs X.stack) [] H H2 s.heap s2.heap := I2.base
  obtain ⟨⟨oc, vs, t0, hoc, hdc, hvc⟩, _, _⟩ := I2.hok c' _ hc
  have run : codeAny (model X.prog X.w) (X.A.deeper (envOfC qg sg s.heap.objs.size g cdg)) (.call (.ref f) ⟨[u2], []⟩) (CR (L2.CX X.prog X.w) (envOfC qg sg s.heap.objs.size g cdg :: X.stack) X.prog X.w H2 s2 Q E0) s2 := by
    refine PySem.W.kla_callFunE hr.depth (objAt I2) rfl L.co L.gen rfl ⟨c', oc, vs, t0, rfl, hoc, hdc, hvc⟩ ?_
    rw [hbind u2]
    refine wpAny_pure (wpAny_newFunctionEnv (fun y hy => (L.own y hy).1) (fun y hy => ?_) (fun h1 hns hsb => ⟨I2.nolimit.fresh _ hsb, ?_⟩) L.kind)
    · obtain rfl : y = (a, u2) := by simpa using hy
      exact L.here
    · show codeAny _ _ (.expr body (lamEnv X scope s2.heap.objs.size f c')) _ _
      have kp : ∀ b o, s2.heap.get? b = some o → h1.get? b = some o := fun b o z => hsb.extBut b o (Nat.ne_of_lt (Heap.lt_size z)) (Heap.get?_push_of_some _ z)
      refine PySem.W.kla_codeExpr (wpAny_mono ((hbody _ _ s2 H2 (hr.deeper _)).run [] _ _ H2 Q (lam1_start (tk := s2.toks + ([(a, u2)] : List (Str × Value)).length) I L I2.env0 hr.hd un hns kp hiw hnd ru) hq) (fun w s' hw => ?_) fun _ _ z => z)
      obtain ⟨w', H', J', rv, q⟩ := hw
      exact ⟨w', H', J'.os, J'.bare, J'.base, J'.hok, rv, q⟩
  refine wpAny_call (codeAny_mono run fun res s' hres => ?_)
  cases res with
  | error e =>
    obtain ⟨_, _, _, _, _, _, _, _, _, _, _, _, z⟩ := hres
    exact z.elim
  | ok fl =>
    cases fl with
    | ret u => exact I2.after hres
    | next => exact hres.elim
    | brk => exact hres.elim
    | cont => exact hres.elim
end
end Q6
namespace Q6
open PySem PySem.Spec PyProof.Rows L2 LamX Qk
/-- _law_agrees(e1, e2, lambda a: .., e4) -/
def tAgL (T : List (Addr × Str)) (K : PySem.W.Frag) (iw : Nat) (q : Str) (tb t1 t2 t4 : TE) : TE := fun σ H Q => t1 σ H fun x H1 => t2 σ H1 fun y H2 => Tabs T H2 ∧ ∀ (f c' : Addr) (H3 : Hp), ExtN H2 H3 → Tabs T H3 → H3 c' = some (CodeO c' q) → t4 σ H3 fun z H4 => H4 c' = some (CodeO c' q) ∧
  ∃ (S M : List Addr) (k : Nat) (L : List Rat → Prop) (φ : List Rat → Rat) (fu : Cur) (us : List Cur) (τ : Ty), Ok ⟨K, T, S⟩ k M H4 ∧ Dq ⟨K, T, S⟩ (hide M H4) x (encU fu) ∧ Dq ⟨K, T, S⟩ (hide M H4) y (.list (us.map encU)) ∧ Dq ⟨K, T, S⟩ (hide M H4) z (encF fu.2) ∧ AgOk L φ fu us ∧ AskRd ⟨K, T, S⟩ τ (tLamC σ 2 iw f c' q tb) L φ ∧ τ.p (.ref f) (hide M H4) ∧
    ∀ H', go ⟨K, T, S⟩ H4 H' → Ok ⟨K, T, S⟩ k M H' → Q (.bl true) H'
theorem pe_agreesL {X : Cx} {T : List (Addr × Str)} {c Pt : Addr} {k iw : Nat} {params : Arguments} {body e1 e2 e4 : Expr} {scope : Scope} {a : Str} {tb t1 t2 t4 : TE} {p lpos pos : Pos} (F : At X.K X.mg "_law_agrees" 87) (TX : Txt X.mg) (O : OddOk X.K)
    (D_l_c_points : Def X.prog X.w X.K X.mg X.base CX0 5 "_law_c_points" P_l_c_points (spD T X.K F_l_c_points 1)) (D_l_c_is_told : Def X.prog X.w X.K X.mg X.base CX0 6 "_law_c_is_told" P_l_c_is_told (spD T X.K F_l_c_is_told 1)) (D_l_c_worth : Def X.prog X.w X.K X.mg X.base CX0 5 "_law_c_worth" P_l_c_worth (spD T X.K F_l_c_worth 2))
    (TB : TabB X.base X.mg c Pt) (hcode : X.env.code = .ref c) (hmT : (Pt, X.env.qual ++ "<lambda>") ∈ T) (hu : ∀ p ∈ T, p.1 = Pt → p.2 = X.env.qual ++ "<lambda>") (hr : Room (k + 2) X.A) (hk : 5 ≤ k) (L : LamS1 X.env.scope scope a) (hdef : defaultsOf params X.env = ([], []))
    (hbind : ∀ (q : Str) (cl : List (Str × Addr)) (pm cv ctv u : Value), bindArgs (PySem.W.kla_fn "<lambda>" q params body scope cl pm cv ctv) ⟨[u], []⟩ = pure [(a, u)]) (hiw : X.N[iw]? = some a) (hnd : X.N.Nodup) (hg : Gl X "_law_agrees") (h1 : PE X e1 t1) (h2 : PE X e2 t2) (h4 : PE X e4 t4)
    (hbody : ∀ (A : Around) (outer : List Env) (s : Shared) (H : Hp) (f c' : Addr), Room k (A.deeper (lamEnv X scope s.heap.objs.size f c')) → PE (lamCx X A outer s H E0 scope f c') body tb)
    (hst : starEach [e1, e2, .Lambda params body scope lpos, e4] X.env = [(false, eval e1 X.env), (false, eval e2 X.env), (false, eval (.Lambda params body scope lpos) X.env), (false, eval e4 X.env)] := by rfl)
    (he : starEach [e1, e2, .Lambda params body scope lpos, e4] X.env = (false, eval e1 X.env) :: starEach [e2, .Lambda params body scope lpos, e4] X.env := by rfl) (hpl : (backTo pos (starEach [e2, .Lambda params body scope lpos, e4] X.env)).any (·.1) = false := by rfl) :
    PE X (.Call (.Name "_law_agrees" p) [e1, e2, .Lambda params body scope lpos, e4] [] pos) (tAgL T X.K iw (X.env.qual ++ "<lambda>") tb t1 t2 t4) := by
  obtain ⟨fd, F1⟩ := F.ex
  have hb := F1.bindsN (ps := P_l_agrees) fun kV doc pm an cdv ct us hl => match us, hl with | [_, _, _, _], _ => rfl
  have kp := F1.kp
  obtain ⟨oc, od, dV, kV, doc, pm, an, cdv, ct, osl, e, lk, hcd, hD, _⟩ := F1.ex
  subst e
  refine ⟨fun pins s σ H Q I h => ?_⟩
  refine wpAny_Call_Name_kw (ld_glob I hg F.gm ?_ rfl)
  refine PySem.W.callWith_K (h₀ := X.base) I.ok.mod.kin kp ?_ he hpl
  rw [hst]
  refine Calls.spliced_cons (thn (h1.run pins s σ H _ I h) fun u1 s1 ⟨x, H1, I1, r1, q1⟩ => ?_)
  refine Calls.spliced_cons (thn (h2.run pins s1 σ H1 _ I1 q1) fun u2 s2 ⟨y, H2, I2, r2, q2⟩ => ?_)
  obtain ⟨hT, q2⟩ := q2
  refine Calls.spliced_cons (lam_make2 I2 TB hcode hmT hu hT hdef (L.has I2.ok) fun f c' pm' ctv H3 s3 I3 eN T3 hf hfn hfr hco => ?_)
  have nf : f ∉ X.fs := fun z => hfr (by
    rcases I3.ok.stk with w | ⟨w, _⟩
    · rw [w]; exact z
    · rw [w]
      obtain ⟨en, m1, m2⟩ := List.mem_filterMap.mp z
      exact List.mem_filterMap.mpr ⟨en, List.mem_cons_of_mem _ m1, m2⟩)
  have nL : f ≠ X.env.locals := fun z => by
    obtain ⟨m, ⟨o, es, ep, ho, hd, _⟩, _⟩ := I3.loc
    rw [← z, hf] at ho
    cases ho
    cases hd
  have I4 : L2.Inv X ((f, PySem.W.kla_obj "<lambda>" (X.env.qual ++ "<lambda>") params body scope (cloFrom X.env.cells scope.names []) pm' c' ctv) :: pins) σ H3 s3 := I3.pins_of fun q hq => by
    rcases List.mem_cons.mp hq with z | z
    · subst z
      exact ⟨hf, hfn, nL, nf, fun v z => nomatch z⟩
    · exact I3.pin q (List.mem_append_right _ z)
  refine Calls.spliced_cons (thn (h4.run _ s3 σ H3 _ I4 (q2 f c' H3 eN T3 hco)) fun u4 s4 ⟨z, H4, I5, r4, q5⟩ => ?_)
  have I6 : L2.Inv X pins σ H4 s4 := I5.pins_of fun q hq => I5.pin q (List.mem_append_right _ (List.mem_cons_of_mem _ hq))
  obtain ⟨hf4, hn4, _⟩ := I5.pin _ (List.mem_append_right _ (List.mem_cons_self ..))
  refine Calls.spliced_nil ⟨I6.kIn, ?_⟩
  obtain ⟨hc4, S, M, kk, Lr, φ, fu, us, τ, ok, d1, d2, d3, ag, ask, hτ, hq⟩ := q5
  have run : codeAny (model X.prog X.w) X.A (.call (.ref (He.ga X.K "_law_agrees")) ⟨[u1, u2, .ref f, u4], []⟩) (CR CX0 X.stack X.prog X.w H4 s4 Q E0) s4 := by
    refine run_ofS (N := N_l_agrees) (ps := P_l_agrees) (us := [u1, u2, .ref f, u4]) (vs := [x, y, .ref f, z]) lk hcd sc_l_agrees hr I6.env0 (hb s4 [u1, u2, .ref f, u4] I6.kIn rfl) (.cons r1 (.cons r2 (.cons rfl (.cons r4 .nil)))) rfl fun hr' => ?_
    obtain ⟨t, w1, w2⟩ := agrees_walk (TT := T) (H := H4) (E := E0) TX O D_l_c_points D_l_c_is_told D_l_c_worth hr' (by omega) (tLamC σ 2 iw f c' (X.env.qual ++ "<lambda>") tb) fun {p1 p2 e t} ha hs => pe_act1 I6 L hf4 hn4 hfr (fun u => hbind _ _ _ _ _ u) hiw hnd hr' (fun A outer s H hr2 => hbody A outer s H f c' hr2) ha hs rfl (.inl rfl) rfl rfl
    exact ⟨t, PSs.nox w1, w2 S τ Lr φ fu us ask ag M H4 (hide M H4) kk _ H4 _ ⟨ok, ok, go.refl H4, ExtN.refl _, fun p hp => (nomatch hp), List.nodup_nil, sat_ag d1 d2 hτ d3⟩ (fun _ _ _ _ z => z.elim) fun v H' g o r => by rw [d_bl r]; exact hq H' g o⟩
  refine wpAny_call (codeAny_mono run fun res s' hres => ?_)
  cases res with
  | error e => exact (show False from hres).elim
  | ok fl =>
    cases fl with
    | ret u => exact I6.after hres
    | next => exact hres.elim
    | brk => exact hres.elim
    | cont => exact hres.elim
/-- what the slot of the function value holds -/
def tyLam (C : Cf) (Γ : Cxt) (σ : L2.St) (f c' : Addr) (q : Str) : Ty := ⟨fun v H => v = .ref f ∧ H c' = some (CodeO c' q) ∧ Sat Γ σ H, fun x ⟨h1, h2, h3⟩ => ⟨h1, x _ _ h2 codeO_ne, h3.ext x⟩⟩
theorem ask_lam {C : Cf} {Γ : Cxt} {σ : L2.St} {f c' : Addr} {q : Str} {iw : Nat} {tb : TE} {L : List Rat → Prop} {φ : List Rat → Rat} (h : ∀ l, L l → HasE C 0 tb (Γ.set iw (some (tyD C (.list (l.map encF))))) (tyD C (encF (φ l)))) : AskRd C (tyLam C Γ σ f c' q) (tLamC σ 2 iw f c' q tb) L φ := fun Γ' t l hg ha hl M k σ' H Q ok st hq => by
  obtain ⟨v, e1, e2, e3, e4⟩ := st.2 2 _ hg
  subst e2
  refine ⟨e1, ha M k σ' H _ ok st fun vs H1 ds g1 o1 e p => ?_⟩
  subst e
  cases p with
  | cons p1 p =>
    cases p
    have x := g1.k ok
    refine ⟨_, rfl, (hide_some (x _ _ e3 codeO_ne)).2, h l hl M k _ H1 _ o1 ((e4.ext x).set p1) fun v H2 g2 o2 pv => hq v H2 (g1.trans g2) o2 pv⟩
theorem has_agreesL {C : Cf} {Γ : Cxt} {c1 c2 c3 iw : Nat} {q : Str} {tb t1 t2 t4 : TE} {fu : Cur} {us : List Cur} {L : List Rat → Prop} {φ : List Rat → Rat} (h1 : HasE C c1 t1 Γ (tyD C (encU fu))) (h2 : HasE C c2 t2 Γ (tyD C (.list (us.map encU)))) (h4 : HasE C c3 t4 Γ (tyD C (encF fu.2))) (ag : AgOk L φ fu us)
    (hb : ∀ l, L l → HasE C 0 tb (Γ.set iw (some (tyD C (.list (l.map encF))))) (tyD C (encF (φ l)))) : HasE C (c1 + (c2 + c3)) (tAgL C.T C.K iw q tb t1 t2 t4) Γ (tyD C (.bool true)) := fun M k σ H Q ok st hq =>
  h1 M (k + (c2 + c3)) σ H _ (ok.le (by omega)) st fun x H1 g1 o1 p1 => h2 M (k + c3) σ H1 _ (o1.le (by omega)) (st.ext (g1.k ok)) fun y H2 g2 o2 p2 =>
    ⟨o2.tabs, fun f c' H3 x3 T3 hc => by
      have g3 := ext_go (C := C) x3 T3
      have o3 := ext_ok x3 T3 o2
      have s2 := (st.ext (g1.k ok)).ext (g2.k o1)
      have s3 := s2.ext (g3.k o2)
      have hcm : c' ∉ M := fun z => by
        obtain ⟨xs, e⟩ := o3.dom c' z
        rw [hc] at e
        unfold CodeO at e
        cases e
      refine h4 M k σ H3 _ o3 s3 fun z H4 g4 o4 p4 => ?_
      have hc4 : hide M H4 c' = some (CodeO c' q) := g4.k o3 _ _ (by rw [hide_out hcm]; exact hc) codeO_ne
      refine ⟨(hide_some hc4).2, C.S, M, k, L, φ, fu, us, tyLam C Γ σ f c' q, o4, ((p1.ext (g2.k o1)).ext (g3.k o2)).ext (g4.k o3), (p2.ext (g3.k o2)).ext (g4.k o3), p4, ag, ask_lam hb, ⟨rfl, hc4, s3.ext (g4.k o3)⟩, fun H' g o => hq _ H' ((((g1.trans g2).trans g3).trans g4).trans g) o (.bl true)⟩⟩
end Q6
end
section
set_option maxHeartbeats 4000000
set_option exponentiation.threshold 2000000
/-! _law_pair_right. -/
namespace Q6
open PySem PySem.Spec PyProof.Rows L2 LamX RZ Qk
section
variable {P : Program} {w : World} {K : PySem.W.Frag} {mg : Str → Option Value} {base : Heap} {TT : List (Addr × Str)}
theorem def_ofLG {x : Str} {i k : Nat} {N ps : List Str} {sp : Sp} (F : AtL K mg base TT x i) (S : FnScope N ps (defScope (top i)))
    (hb : ∀ (kV doc pm : Value) (an : Option Addr) (cdv ct : Value) (us : List Value), us.length = ps.length → bindArgs (PySem.W.fnOf x x (defArgs (top i)) (defBody (top i)) (defScope (top i)) .none kV doc pm an cdv ct) ⟨us, []⟩ = pure (ps.zip us))
    (len : ∀ vs H Q E, sp vs H Q E → vs.length = ps.length)
    (hbody : ∀ (c Pt : Addr) (TB : TabB base mg c Pt) (hmT : (Pt, x ++ ".<locals>." ++ "<lambda>") ∈ TT) (hu : ∀ p ∈ TT, p.1 = Pt → p.2 = x ++ ".<locals>." ++ "<lambda>") (A : Around) (outer : List Env) (s : Shared) (H : Hp) (vs : List V) (Q : VK) (E : XK), A.guards = some [] → Room k (A.deeper (envOfC x (defScope (top i)) s.heap.objs.size (He.ga K x) (.ref c))) → sp vs H Q E →
      ∃ t, PSs (cxOf CX0 P w K mg base N x (defScope (top i)) (He.ga K x) (.ref c) A outer s H E).nox (defBody (top i)) t ∧ t { nx := fun _ H' => Q .non H', rt := Q } (L2.start N vs) H) : DefG P w K mg base (k + 1) x ps sp := by
  obtain ⟨fd, F1, c, Pt, hc, TB, hmT, hu⟩ := F.ex
  have hbn := F1.bindsN hb
  obtain ⟨oc, od, dV, kV, doc, pm, an, cdv, ct, osl, efd, lk, hcd, hdv, hkw⟩ := F1.ex
  have e : cdv = .ref c := by rw [efd] at hc; exact hc
  subst e
  refine ⟨⟨fd, fun A outer s H args us vs Q E hg hr e0 hbd r h => ?_, hbn⟩, len, F.gm, F1.kp⟩
  subst efd
  exact run_ofS lk hcd S hr e0 hbd r (len _ _ _ _ h) fun hr' => by
    obtain ⟨t, h1, h2⟩ := hbody c Pt TB hmT hu A outer s H vs Q E hg hr' h
    exact ⟨t, PSs.nox h1, h2⟩
end
/-- x, y = some datum, some datum -/
theorem hasS_seq_parN {C : Cf} {Γ : Cxt} {c1 c2 : Nat} {A : Own} {B : Post} {R : Res} {rest : TS} {P Q : PyData → Prop} {i j : Nat} {ta : TA} (h : HasA C c1 ta Γ (fun l => ∃ a r, l = a :: r ∧ P a ∧ ∃ b r2, r = b :: r2 ∧ Q b ∧ r2 = []))
    (hr : ∀ d e, P d → Q e → HasS C c2 rest ((Γ.set i (some (tyD C d))).set j (some (tyD C e))) A B R) : HasS C (c1 + c2) (tSeq (tPar i j ta) rest) Γ A B R := fun M0 H0 N k σ H D a q r =>
  h _ (k + c2) σ H _ (a.le (by omega) : At0 C _ M0 H0 N A Γ σ H).ok a.sat fun vs H1 ds g1 o1 ⟨x, _, e1, hx, y, _, e2, hy, e4⟩ p => by
    subst e4 e2 e1
    cases p with
    | cons p1 p => cases p with
      | cons p2 p =>
        cases p
        exact ⟨_, _, rfl, hr x y hx hy M0 H0 N k _ _ D (a.step g1 o1 (((a.sat.ext (g1.k a.ok)).set (τ := tyD C x) p1).set (τ := tyD C y) p2)) q r⟩
theorem hasS_seq_setN {C : Cf} {Γ : Cxt} {c1 c2 : Nat} {A : Own} {B : Post} {R : Res} {rest : TS} {P : PyData → Prop} {i : Nat} {te : TE} (h : HasE C c1 te Γ (tyP C P)) (hr : ∀ d, P d → HasS C c2 rest (Γ.set i (some (tyD C d))) A B R) : HasS C (c1 + c2) (tSeq (tAsg te (gName i)) rest) Γ A B R := fun M0 H0 N k σ H D a q r =>
  h _ (k + c2) σ H _ (a.le (by omega) : At0 C _ M0 H0 N A Γ σ H).ok a.sat fun v H1 g1 o1 ⟨d, hd, p⟩ => hr d hd M0 H0 N k _ H1 D (a.step g1 o1 ((a.sat.ext (g1.k a.ok)).set (τ := tyD C d) p)) q r
/-- two keywords, the other way round -/
def g2K {α : Type} (us ws : List α) : List α := match us, ws with
  | [], [a, b] => [b, a]
  | _, _ => []
theorem g2K_rel {vs : List V} {us : List Value} {zs : List V} {ws : List Value} (h1 : Vals vs us) (h2 : Vals zs ws) : Vals (g2K vs zs) (g2K us ws) := by
  cases h1 with
  | nil =>
    cases h2 with
    | nil => exact .nil
    | cons a h2 =>
      cases h2 with
      | nil => exact .nil
      | cons b h2 =>
        cases h2 with
        | nil => exact .cons b (.cons a .nil)
        | cons c h2 => exact .nil
  | cons a h1 => exact .nil
theorem g2K_dq {C : Cf} {H : Hp} {vs : List V} {d e : PyData} (h : DqAll C H vs [d, e]) : DqAll C H (g2K [] vs) [e, d] := by
  cases h with
  | cons h1 h =>
    cases h with
    | cons h2 h => cases h; exact .cons h2 (.cons h1 .nil)
theorem kb_two {K : PySem.W.Frag} {mg : Str → Option Value} {x p q : Str} {i : Nat} (F : At K mg x i) (hb : ∀ (kV doc pm : Value) (an : Option Addr) (cdv ct : Value) (v w : Value), bindArgs (PySem.W.fnOf x x (defArgs (top i)) (defBody (top i)) (defScope (top i)) .none kV doc pm an cdv ct) ⟨[], [(q, w), (p, v)]⟩ = pure [(p, v), (q, w)]) {fd : FuncData} (h : HasFd K (He.ga K x) fd) : KBinds K fd [p, q] [q, p] g2K g2K :=
  kbinds F (fun kV doc pm an cdv ct us ws hl => by
    match us, ws, hl with
    | [], [a, b], _ => exact hb kV doc pm an cdv ct b a
    | [], [], hl => cases hl
    | [], [_], hl => cases hl
    | [], _ :: _ :: _ :: _, hl => cases hl
    | _ :: _, _, hl => cases hl) g2K_rel h
theorem kb_scaled {K : PySem.W.Frag} {mg : Str → Option Value} (F : At K mg "scaled" 49) {fd : FuncData} (h : HasFd K (He.ga K "scaled") fd) : KBinds K fd P_scaled ["factor", "curve"] g2K g2K := kb_two F (fun _ _ _ _ _ _ _ _ => rfl) h
theorem kb_difference {K : PySem.W.Frag} {mg : Str → Option Value} (F : At K mg "difference" 50) {fd : FuncData} (h : HasFd K (He.ga K "difference") fd) : KBinds K fd P_difference ["other", "one"] g2K g2K := kb_two F (fun _ _ _ _ _ _ _ _ => rfl) h
/-! raw data, told by repr -/
theorem rawF.shw {x : PyData} {q : Rat} (h : rawF x q) : Shw 2 1 x := by
  obtain ⟨n, m, e, _, h1, h2, _⟩ := h
  have hi : ∀ d ∈ [PyData.int n, .int m], Shw 0 0 d := fun d hd => by
    simp only [List.mem_cons, List.not_mem_nil, or_false] at hd
    rcases hd with rfl | rfl
    · exact shw_int h1
    · exact shw_int h2
  cases x with
  | list ds => cases e; exact shw_lst hi
  | tuple ds => cases e; exact shw_tup hi
  | _ => cases e
theorem shw_seq {x : PyData} {ds : List PyData} {n k m : Nat} (e : seqD x = some ds) (h : ∀ d ∈ ds, Shw n k d) (hm : ds.length ≤ m) : Shw (m * (n + 1)) (k + 1) x := by
  have hl := Nat.mul_le_mul_right (n + 1) hm
  cases x with
  | list es => cases e; exact (shw_lst h).mono hl (Nat.le_refl _)
  | tuple es => cases e; exact (shw_tup h).mono hl (Nat.le_refl _)
  | _ => cases e
theorem rawK.shw {x : PyData} {k : Cor} (h : rawK x k) : Shw 6 2 x := by
  obtain ⟨a, b, e, h1, h2⟩ := h
  exact shw_seq (m := 2) e (fun d hd => by
    simp only [List.mem_cons, List.not_mem_nil, or_false] at hd
    rcases hd with rfl | rfl
    · exact h1.shw
    · exact h2.shw) (by simp)
theorem rawU.shw {x : PyData} {u : Cur} (h : rawU x u) (hl : u.1.length ≤ 20) : Shw 282 4 x := by
  obtain ⟨a, b, e, ⟨es, e2, hp⟩, h2⟩ := h
  refine shw_seq (m := 2) (n := 140) e (fun d hd => ?_) (by simp)
  simp only [List.mem_cons, List.not_mem_nil, or_false] at hd
  rcases hd with rfl | rfl
  · refine shw_seq (m := 20) (n := 6) e2 (fun y hy => ?_) (by rw [Paired.len hp]; exact hl)
    obtain ⟨k, _, hk⟩ := Paired.get (Paired.swap hp) y hy
    exact hk.shw
  · exact h2.shw.mono (by decide) (by decide)
theorem passU.shw {u : Cur} {d : PyData} (h : passU u d) : Shw 282 4 d := by
  obtain ⟨L, hg, _, hl⟩ := h
  exact hg.raw.shw hl
/-- what is asked of one and two worths -/
def L1 (l : List Rat) : Prop := ∃ a, l = [a] ∧ Sz 4000 a
def L2' (l : List Rat) : Prop := ∃ a b, l = [a, b] ∧ Sz 4000 a ∧ Sz 4000 b
def φ1 (f : Rat) (l : List Rat) : Rat := f * l.headD 0
def φ2 (l : List Rat) : Rat := l.headD 0 - (l.getD 1 0)
/-- the sizes that the walk over two curves asks -/
structure PairOk (u v : Cur) (f : Rat) : Prop where
  tu : Told u
  fz : Sz 20 f
  uz : Sz 20 u.2 ∧ Sz 20 v.2
  tf : TimesOk u f
  agt : AgOk L1 (φ1 f) (timesC f u) [u]
  tv : TimesOk v (-1)
  sv : SumOk [u, timesC (-1) v]
  agd : AgOk L2' φ2 (apart u v) [u, v]
  tn : TimesOk u (-1)
  sn : SumOk [u, timesC (-1) u]
  gu : Given (encU u) u
  shw : Shw 16000 10 (mkD [mku (timesC f u), mku (apart u v)])
  len : (timesC f u).1.length ≤ 1000 ∧ (apart u v).1.length ≤ 1000
section
variable {P : Program} {w : World} {K : PySem.W.Frag} {mg : Str → Option Value} {base : Heap} {TT : List (Addr × Str)}
def F_l_pair_right (ds : List PyData) (R : Res) : Prop := ∃ j j' u v, ds = [strD, encU u, encU v] ∧ Dr j u ∧ Dr j' v ∧ j ≤ 25 ∧ j' ≤ 25 ∧ (∀ f, Sz 20 f → PairOk u v f) ∧ R = rD (.bool true)
abbrev N_l_pair_right : List Str := ["_law_stream_here", "_law_one", "_law_other", "_law_great", "_law_factor", "_law_given", "_law_some", "_law_was", "_law_raw_here", "_law_found", "_law_due", "_law_told", "_law_kept", "_law_curve", "_law_worths"]
abbrev P_l_pair_right : List Str := ["_law_stream_here", "_law_one", "_law_other"]
theorem sc_l_pair_right : FnScope N_l_pair_right P_l_pair_right (defScope (top 89)) := ⟨rfl, rfl, rfl, by decide +kernel, rfl, by decide +kernel, by decide +kernel⟩
theorem ok_l_pair_right (T : Txt mg) (O : OddOk K) (D_l_low : Def P w K mg base CX0 2 "_law_low" P_l_low (spD TT K F_l_low 2)) (D_l_pick : Def P w K mg base CX0 2 "_law_pick" P_l_pick (spR TT K 1 F_l_pick 2)) (D_l_raw : Def P w K mg base CX0 9 "_law_raw" P_l_raw (spR TT K 2 F_l_raw 2)) (D_l_c_passed : Def P w K mg base CX0 11 "_law_c_passed" P_l_c_passed (spR TT K 10100 F_l_c_passed 2))
    (D_scaled : Def P w K mg base (L2.CX P w) 8 "scaled" P_scaled (spE TT K 0 F_scaled 2)) (D_difference : Def P w K mg base (L2.CX P w) 8 "difference" P_difference (spE TT K 0 F_difference 2)) (D_l_times : Def P w K mg base CX0 3 "_law_times" P_l_times (spD TT K F_l_times 2)) (D_l_less : Def P w K mg base CX0 3 "_law_less" P_l_less (spD TT K F_l_less 2)) (D_l_draw : Def P w K mg base CX0 1 "_law_draw" P_l_draw (spR TT K 1 F_l_draw 2))
    (D_l_c_points : Def P w K mg base CX0 5 "_law_c_points" P_l_c_points (spD TT K F_l_c_points 1)) (D_l_c_is_told : Def P w K mg base CX0 6 "_law_c_is_told" P_l_c_is_told (spD TT K F_l_c_is_told 1)) (D_l_c_worth : Def P w K mg base CX0 5 "_law_c_worth" P_l_c_worth (spD TT K F_l_c_worth 2))
    (F_l_agrees : At K mg "_law_agrees" 87) (F_scaled' : At K mg "scaled" 49) (F_difference' : At K mg "difference" 50) (F : AtL K mg base TT "_law_pair_right" 89) : DefG P w K mg base 12 "_law_pair_right" P_l_pair_right (spR TT K 20300 F_l_pair_right 3) := by
  have nd := sc_l_pair_right.nd
  have hu65 : ∀ {k A}, Room k A → A.units + 65 < cLine := fun r => by have := r.un; omega
  refine def_ofLG F sc_l_pair_right (fun _ _ _ _ _ _ us hl => match us, hl with | [_, _, _], _ => rfl) (fun vs H Q E h => len_R h) (fun c Pt TB hmT hu A outer s H vs Q E hg hr h => ⟨_, (pss_cons (ps_set (i := 3) nd rfl (Or.inl rfl) (pe_callD D_l_low hr (by decide) rfl pass0 (pa_cons (pe_op op_sub (pe_callD D_l_draw hr (by decide) rfl pass0 (pa_cons (pv 0) (pa_cons pe_int pa_nil))) pe_int) (pa_cons (pe_op op_add pe_int (pe_callD D_l_draw hr (by decide) rfl pass0 (pa_cons (pv 0) (pa_cons (pe_op op_pow pe_int pe_int) pa_nil)))) pa_nil))))
    (pss_cons (ps_set (i := 4) nd rfl (Or.inr rfl) (pe_callD D_l_pick hr (by decide) rfl pass0 (pa_cons (pv 0) (pa_cons (pe_lst (pa_cons (pe_callD D_l_low hr (by decide) rfl pass0 (pa_cons (pe_op op_sub (pe_callD D_l_draw hr (by decide) rfl pass0 (pa_cons (pv 0) (pa_cons pe_int pa_nil))) pe_int) (pa_cons (pe_op op_add pe_int (pe_callD D_l_draw hr (by decide) rfl pass0 (pa_cons (pv 0) (pa_cons pe_int pa_nil)))) pa_nil))) (pa_cons (pv 3) pa_nil))) pa_nil))))
    (pss_cons (ps_par (i := 5) (j := 6) (by rfl) nd rfl rfl (by decide) rfl rfl (pa_cons (pe_callD D_l_c_passed hr (by decide) rfl pass0 (pa_cons (pv 0) (pa_cons (pv 1) pa_nil))) (pa_cons (pe_callD D_l_c_passed hr (by decide) rfl pass0 (pa_cons (pv 0) (pa_cons (pv 2) pa_nil))) pa_nil)) (by rfl))
    (pss_cons (ps_set (i := 7) nd rfl (Or.inl rfl) (pe_callB (call_repr hg (Room.eq hr)) (by rfl) T.fr_repr bb_repr (pa_cons (pe_lst (pa_cons (pv 5) (pa_cons (pv 6) pa_nil))) pa_nil)))
    (pss_cons (ps_set (i := 8) nd rfl (Or.inl rfl) (pe_callD D_l_raw hr (by decide) rfl pass0 (pa_cons (pv 0) (pa_cons (pv 4) pa_nil))))
    (pss_cons (ps_par (i := 9) (j := 10) (by rfl) nd rfl rfl (by decide) rfl rfl (pa_cons (pe_callD D_scaled hr (by decide) rfl passL (pa_cons (pv 5) (pa_cons (pv 8) pa_nil))) (pa_cons (pe_callD D_l_times hr (by decide) rfl pass0 (pa_cons (pv 4) (pa_cons (pe_ix ix_seq (pv 1) pe_int (fun _ _ => rfl)) pa_nil))) pa_nil)) (by rfl))
    (pss_cons (ps_if (pt_not (pt_val (pe_agreesL (k := 9) (iw := 14) (tb := (tCall (spD TT K F_l_times 2) [] (fun _ _ _ => False) (tCons (tVar 4) (tCons (tOp (rIx K) (tVar 14) (tC (.int 0))) tNil)))) F_l_agrees T O D_l_c_points D_l_c_is_told D_l_c_worth TB rfl hmT hu hr (by decide) (lamS1_by (sc := defScope (top 89)) (by decide +kernel)) rfl (fun _ _ _ _ _ _ => rfl) rfl nd rfl (pv 9) (pe_lst (pa_cons (pv 1) pa_nil)) (pv 10) (fun _ _ _ _ _ _ hr2 => (pe_callD D_l_times hr2 (by decide) rfl pass0 (pa_cons (pv 4) (pa_cons (pe_ix ix_seq (pv 14) pe_int (fun _ _ => rfl)) pa_nil))))))) (pss_one (ps_ret pe_bl)) pss_nil)
    (pss_cons (ps_if (PW.pt (pw_or (pt_cmpR (op_neD (Room.eq hr)) (pe_callK0 D_scaled hr (by decide) rfl (fun fd h => kb_scaled F_scaled' h) passL (pk_cons (pv 8) (pk_cons (pv 5) pk_nil))) (pv 9) (nomark _)) (pw_or1 (pt_cmpR L2.op_ne (pe_callB (call_repr hg (Room.eq hr)) (by rfl) T.fr_repr bb_repr (pa_cons (pe_lst (pa_cons (pv 5) (pa_cons (pv 6) pa_nil))) pa_nil)) (pv 7) (nomark _))))) (pss_one (ps_ret pe_bl)) pss_nil)
    (pss_cons (ps_par (i := 9) (j := 10) (by rfl) nd rfl rfl (by decide) rfl rfl (pa_cons (pe_callD D_difference hr (by decide) rfl passL (pa_cons (pv 5) (pa_cons (pv 6) pa_nil))) (pa_cons (pe_callD D_l_less hr (by decide) rfl pass0 (pa_cons (pe_ix ix_seq (pv 1) pe_int (fun _ _ => rfl)) (pa_cons (pe_ix ix_seq (pv 2) pe_int (fun _ _ => rfl)) pa_nil))) pa_nil)) (by rfl))
    (pss_cons (ps_if (pt_not (pt_val (pe_agreesL (k := 9) (iw := 14) (tb := (tCall (spD TT K F_l_less 2) [] (fun _ _ _ => False) (tCons (tOp (rIx K) (tVar 14) (tC (.int 0))) (tCons (tOp (rIx K) (tVar 14) (tC (.int 1))) tNil)))) F_l_agrees T O D_l_c_points D_l_c_is_told D_l_c_worth TB rfl hmT hu hr (by decide) (lamS1_by (sc := defScope (top 89)) (by decide +kernel)) rfl (fun _ _ _ _ _ _ => rfl) rfl nd rfl (pv 9) (pe_lst (pa_cons (pv 1) (pa_cons (pv 2) pa_nil))) (pv 10) (fun _ _ _ _ _ _ hr2 => (pe_callD D_l_less hr2 (by decide) rfl pass0 (pa_cons (pe_ix ix_seq (pv 14) pe_int (fun _ _ => rfl)) (pa_cons (pe_ix ix_seq (pv 14) pe_int (fun _ _ => rfl)) pa_nil))))))) (pss_one (ps_ret pe_bl)) pss_nil)
    (pss_cons (ps_set (i := 11) nd rfl (Or.inl rfl) (pe_lst (pa_cons (pe_callD D_scaled hr (by decide) rfl passL (pa_cons (pv 5) (pa_cons (pv 8) pa_nil))) (pa_cons (pe_callD D_difference hr (by decide) rfl passL (pa_cons (pv 5) (pa_cons (pv 6) pa_nil))) pa_nil))))
    (pss_cons (ps_set (i := 12) nd rfl (Or.inl rfl) (pe_callB (call_repr hg (Room.eq hr)) (by rfl) T.fr_repr bb_repr (pa_cons (pv 11) pa_nil)))
    (pss_cons (ps_for PassesOwn.never rfl (pi_seq (pv 11)) (pg_name (i := 13) nd rfl (Or.inl rfl)) (pss_one (ps_expr (pe_bm PySem.F.plainAttrs_list PySem.F.slot_list_append PySem.F.type_list_append mt_append (pe_ix ix_seq (pv 13) pe_int (fun _ _ => rfl)) (pa_cons pe_str pa_nil)))))
    (pss_cons (ps_if (pt_cmpR L2.op_ne (pe_callB (call_repr hg (Room.eq hr)) (by rfl) T.fr_repr bb_repr (pa_cons (pe_lst (pa_cons (pe_callD D_scaled hr (by decide) rfl passL (pa_cons (pv 5) (pa_cons (pv 8) pa_nil))) (pa_cons (pe_callD D_difference hr (by decide) rfl passL (pa_cons (pv 5) (pa_cons (pv 6) pa_nil))) pa_nil))) pa_nil)) (pv 12) (nomark _)) (pss_one (ps_ret pe_bl)) pss_nil)
    (pss_one (ps_ret (pe_and (pe_cmpR (op_eqD (Room.eq hr)) (pe_callK0 D_difference hr (by decide) rfl (fun fd h => kb_difference F_difference' h) passL (pk_cons (pv 6) (pk_cons (pv 5) pk_nil))) (pv 9) (nomark _)) (pe_one (pe_cmpR (op_eqD (Room.eq hr)) (pe_callD D_difference hr (by decide) rfl passL (pa_cons (pv 5) (pa_cons (pv 1) pa_nil))) (pe_tup (pa_cons (pe_lst (pa_cons (pe_tup (pa_cons (pe_tup (pa_cons pe_int (pa_cons pe_int pa_nil))) (pa_cons (pe_tup (pa_cons pe_int (pa_cons pe_int pa_nil))) pa_nil))) pa_nil)) (pa_cons (pe_tup (pa_cons pe_int (pa_cons pe_int pa_nil))) pa_nil))) (nomark _)))))))))))))))))))), read_R ?_ h⟩)
  rintro S ds R ⟨j, j', u, v, rfl, hu', hv', hj, hj', pok, rfl⟩ _
  have cpow : CPow 10 5 := ⟨by decide, by decide, by decide⟩
  have e5 : ((10 : Int) ^ Int.toNat 5) = 100000 := by decide
  let PF : PyData → Prop := fun d => ∃ q, d = encF q ∧ Sz 20 q
  have lowN : ∀ {Γ : Cxt} {c1 c2 : Nat} {t1 t2 : TE} {E : XK} {S1 S2 : Int → Prop}, HasE ⟨K, TT, S⟩ c1 t1 Γ (tyI ⟨K, TT, S⟩ S1) → HasE ⟨K, TT, S⟩ c2 t2 Γ (tyI ⟨K, TT, S⟩ S2) → (∀ i, S1 i → i.natAbs < 2 ^ 20) → (∀ i, S2 i → 0 < i ∧ i.natAbs < 2 ^ 20) → HasE ⟨K, TT, S⟩ (c1 + (c2 + 0) + 0) (tCall (spD TT K F_l_low 2) [] E (tCons t1 (tCons t2 tNil))) Γ (tyP ⟨K, TT, S⟩ PF) := fun h1 h2 g1 g2 => has_callN (has_consN h1 (has_consN h2 has_nil)) fun l ⟨_, _, e1, ⟨n, e2, hn⟩, _, _, e3, ⟨m, e4, hm⟩, e5⟩ => by
    subst e5 e4 e3 e2 e1
    obtain ⟨m0, m1⟩ := g2 m hm
    exact ⟨rfl, _, ⟨n, m, rfl, by omega, by omega, rfl⟩, _, rfl, sz_div m0 (g1 n hn) m1⟩
  refine hasS_le (c1 := _ + 20290) (hasS_seq_setN (lowN (has_i2I (f := fun i j => i - j) (has_drawC (n := 2001) (has_cons (has_var rfl) (has_cons has_int has_nil)) (by decide) (by decide)) (has_I has_int)) (has_i2I (f := fun i j => i + j) (has_I has_int) (has_drawC (n := 100000) (has_cons (has_var rfl) (has_cons (has_conv (has_ic cpow has_int has_int) (by rw [e5])) has_nil)) (by decide) (by decide))) ?_ ?_) fun d ⟨gr, e, hgr⟩ => ?_) (by decide)
  · rintro i ⟨x, y, ⟨h0, h1⟩, rfl, rfl⟩; omega
  · rintro i ⟨x, y, rfl, ⟨h0, h1⟩, rfl⟩; omega
  subst e
  refine hasS_le (c1 := _ + 20280) (hasS_seq_setN (P := PF) (has_callR (c2 := 1) (has_consN (P := (· = strD)) (has_any (has_var rfl) rfl) (has_consN (has_lstN (has_consN (lowN (has_i2I (f := fun i j => i - j) (has_drawC (n := 15) (has_cons (has_var rfl) (has_cons has_int has_nil)) (by decide) (by decide)) (has_I has_int)) (has_i2I (f := fun i j => i + j) (has_I has_int) (has_drawC (n := 3) (has_cons (has_var rfl) (has_cons has_int has_nil)) (by decide) (by decide))) ?_ ?_) (has_consN (P := PF) (has_any (has_var rfl) ⟨_, rfl, hgr⟩) has_nil)) ?_) has_nil)) ?_) fun d ⟨f, e, hf⟩ => ?_) (by decide)
  · rintro i ⟨x, y, ⟨h0, h1⟩, rfl, rfl⟩; omega
  · rintro i ⟨x, y, rfl, ⟨h0, h1⟩, rfl⟩; omega
  · rintro ds ⟨_, _, rfl, _, _, _, rfl, _, rfl⟩; simp
  · rintro l ⟨_, _, rfl, rfl, _, _, rfl, ⟨ds, rfl, x, _, rfl, hx, y, _, rfl, hy, rfl⟩, rfl⟩
    refine ⟨rfl, rP (· ∈ [x, y]), ⟨[x, y], rfl, by simp, by simp, rfl⟩, fun M H v H' ⟨d, h1, h2⟩ => ?_⟩
    simp only [List.mem_cons, List.not_mem_nil, or_false] at h1
    rcases h1 with rfl | rfl
    · exact ⟨_, hx, h2⟩
    · exact ⟨_, hy, h2⟩
  subst e
  have po := pok f hf
  clear pok
  refine hasS_le (c1 := _ + 50) (hasS_seq_parN (P := passU u) (Q := passU v) (has_consN (has_callR (c2 := 10100) (has_cons (has_var rfl) (has_cons (has_var rfl) has_nil)) fun l e => ⟨by rw [e]; rfl, _, ⟨j, u, e, hu', hj, rfl⟩, fun _ _ _ _ h => h⟩) (has_consN (has_callR (c2 := 10100) (has_cons (has_var rfl) (has_cons (has_var rfl) has_nil)) fun l e => ⟨by rw [e]; rfl, _, ⟨j', v, e, hv', hj', rfl⟩, fun _ _ _ _ h => h⟩) has_nil)) fun gd sd hgd hsd => ?_) (by decide)
  obtain ⟨Lu, gg, gt, _⟩ := id hgd
  obtain ⟨Lv, sg, st, _⟩ := id hsd
  have shL : Shw (2 * 283) 5 (.list [gd, sd]) := shw_lst (n := 282) (k := 4) (ds := [gd, sd]) fun d hd => by
    simp only [List.mem_cons, List.not_mem_nil, or_false] at hd
    rcases hd with rfl | rfl
    · exact hgd.shw
    · exact hsd.shw
  have wasE : ∀ {Γ : Cxt}, Γ[5]? = some (some (tyD ⟨K, TT, S⟩ gd)) → Γ[6]? = some (some (tyD ⟨K, TT, S⟩ sd)) → HasE ⟨K, TT, S⟩ 0 (tCB (rRepr K) (tCons (tLst (tCons (tVar 5) (tCons (tVar 6) tNil))) tNil)) Γ (tyD ⟨K, TT, S⟩ (.str (PyData.list [gd, sd]).shown)) := fun h1 h2 => has_repr (C := ⟨K, TT, S⟩) (has_lst (has_cons (has_var h1) (has_cons (has_var h2) has_nil)) (by simp)) rfl shL (by decide) (by decide)
  refine hasS_le (c1 := 0 + 50) (hasS_seq_set (wasE rfl rfl) ?_) (by decide)
  refine hasS_le (c1 := _ + 0) (hasS_seq_setN (P := fun d => rawF d f) (has_callR (c2 := 2) (has_cons (has_var rfl) (has_cons (has_var rfl) has_nil)) fun l e => ⟨by rw [e]; rfl, _, ⟨f, e, hf.mono (by decide), rfl⟩, fun _ _ _ _ h => h⟩) fun rd hrd => ?_) (by decide)
  let Γ2 : Option Ty → Option Ty → Option Ty → Cxt := fun a b d => [some (tyD ⟨K, TT, S⟩ strD), some (tyD ⟨K, TT, S⟩ (encU u)), some (tyD ⟨K, TT, S⟩ (encU v)), none, some (tyD ⟨K, TT, S⟩ (encF f)), some (tyD ⟨K, TT, S⟩ gd), some (tyD ⟨K, TT, S⟩ sd), some (tyD ⟨K, TT, S⟩ (.str (PyData.list [gd, sd]).shown)), some (tyD ⟨K, TT, S⟩ rd), a, b, none, d, none, none]
  refine hasS_wk (Δ := Γ2 none none none) (.same (.same (.same (.drop (.same (.same (.same (.same (.same (.same (.same (.same (.same (.same (.same .nil))))))))))))))) ?_
  -- scaled
  have sc : F_scaled [gd, rd] (.ok (rU ((timesC f u).1.map encK) (encF (timesC f u).2))) := .inl ⟨gd, rd, _, f, rfl, gg, hrd, by rw [gt]; exact po.tf, by rw [gt]⟩
  have df : F_difference [gd, sd] (.ok (rU ((apart u v).1.map encK) (encF (apart u v).2))) := .inl ⟨gd, sd, _, _, rfl, gg, sg, by rw [st]; exact po.tv, by rw [gt, st]; exact po.sv, by rw [gt, st]⟩
  have tldu : tld u = u := norm_eq po.tu
  have dn : F_difference [gd, encU u] (.ok (rU ((apart u u).1.map encK) (encF (apart u u).2))) := .inl ⟨gd, encU u, _, u, rfl, gg, po.gu, by rw [tldu]; exact po.tn, by rw [gt, tldu]; exact po.sn, by rw [gt, tldu]⟩
  have pagt := po.agt
  have pagd := po.agd
  have pshw := po.shw
  have plen := po.len
  generalize hX : timesC f u = tu at *
  generalize hY : apart u v = av at *
  have x2 : tu.2 = f * u.2 := by rw [← hX]; rfl
  have y2 : av.2 = u.2 - v.2 := by rw [← hY]; exact apart_slope u v
  refine hasS_0 (hasS_seq_par (c2 := 0) (has_cons (has_callOU (has_cons (has_var rfl) (has_cons (has_var rfl) has_nil)) rfl sc) (has_cons (has_conv (has_call (has_cons (has_var rfl) (has_cons (has_ix (has_var rfl) has_int rfl rfl) has_nil)) rfl ⟨f, u.2, rfl, fit hf po.uz.1 (by decide), rfl⟩) (congrArg encF x2.symm)) has_nil)) ?_) rfl
  refine hasS_wk (Δ := Γ2 (some (tyD ⟨K, TT, S⟩ (encU tu))) (some (tyD ⟨K, TT, S⟩ (encF tu.2))) none) (Wk.refl _) ?_
  refine hasS_0 (hasS_ifret (b := false) (c2 := 0) (c3 := 0) (hast_conv (hast_not (hast_B (has_agreesL (fu := tu) (us := [u]) (L := L1) (φ := φ1 f) (has_var rfl) (has_lst (has_cons (has_var rfl) has_nil) (by simp)) (has_var rfl) pagt fun l ⟨a, el, ha⟩ => ?_))) rfl) (fun z => by cases z) fun _ => ?_) rfl
  · subst el
    exact has_call (C := ⟨K, TT, S⟩) (c1 := 0) (has_cons (has_var rfl) (has_cons (has_ix (has_var rfl) has_int rfl rfl) has_nil)) rfl ⟨f, a, rfl, fit hf ha (by decide), rfl⟩
  refine hasS_0 (hasS_ifret (b := false) (c2 := 0) (c3 := 0) (hast_conv (hast_or (hast_test (has_ne (has_callKU (cs := tu.1.map encK) (s := encF tu.2) (ds := [rd, gd]) (has_cons (has_var rfl) (has_cons (has_var rfl) has_nil)) (fun H vs h => g2K_dq h) rfl sc) (has_var rfl) (eqOk_encU tu) (eqOk_encU tu))) fun _ => hast_test (has_neS (wasE rfl rfl) (has_var rfl))) ?_) (fun z => by cases z) fun _ => ?_) rfl
  · have : PyData.eqv (encU tu) (encU tu) = true := by rw [eqv_encU]; simp
    show ((!PyData.eqv (encU tu) (encU tu)) || _) = false
    rw [this]; simp
  refine hasS_0 (hasS_seq_par (c2 := 0) (has_cons (has_callOU (has_cons (has_var rfl) (has_cons (has_var rfl) has_nil)) rfl df) (has_cons (has_conv (has_call (has_cons (has_ix (has_var rfl) has_int rfl rfl) (has_cons (has_ix (has_var rfl) has_int rfl rfl) has_nil)) rfl ⟨u.2, v.2, rfl, fit po.uz.1 po.uz.2 (by decide), rfl⟩) (congrArg encF y2.symm)) has_nil)) ?_) rfl
  refine hasS_wk (Δ := Γ2 (some (tyD ⟨K, TT, S⟩ (encU av))) (some (tyD ⟨K, TT, S⟩ (encF av.2))) none) (Wk.refl _) ?_
  refine hasS_0 (hasS_ifret (b := false) (c2 := 0) (c3 := 0) (hast_conv (hast_not (hast_B (has_agreesL (fu := av) (us := [u, v]) (L := L2') (φ := φ2) (has_var rfl) (has_lst (has_cons (has_var rfl) (has_cons (has_var rfl) has_nil)) (by simp)) (has_var rfl) pagd fun l ⟨a, b, el, ha, hb⟩ => ?_))) rfl) (fun z => by cases z) fun _ => ?_) rfl
  · subst el
    exact has_call (C := ⟨K, TT, S⟩) (c1 := 0) (has_cons (has_ix (has_var rfl) has_int rfl rfl) (has_cons (has_ix (has_var rfl) has_int rfl rfl) has_nil)) rfl ⟨a, b, rfl, fit ha hb (by decide), rfl⟩
  have shl' : ∀ x ∈ [mku tu, mku av], x.1.length ≤ 1000 := fun x hx => by
    simp only [List.mem_cons, List.not_mem_nil, or_false] at hx
    rcases hx with rfl | rfl
    · exact Nat.le_trans (Nat.le_of_eq (List.length_map ..)) plen.1
    · exact Nat.le_trans (Nat.le_of_eq (List.length_map ..)) plen.2
  refine hasS_0 (hasS_made (n := 11) (j := 12) (m := 13) (us := [mku tu, mku av]) (c2 := 0) (mk_cons (has_cons (has_var rfl) (has_cons (has_var rfl) has_nil)) rfl sc (mk_cons (has_cons (has_var rfl) (has_cons (has_var rfl) has_nil)) rfl df mk_nil)) (by simp) shl' pshw (Nat.le_refl _) (by decide) (show 11 < 15 by decide) (show 13 < 15 by decide) (by decide) ?_) rfl
  refine hasS_wk (Δ := Γ2 (some (tyD ⟨K, TT, S⟩ (encU av))) (some (tyD ⟨K, TT, S⟩ (encF av.2))) (some (tyD ⟨K, TT, S⟩ (.str (mkD [mku tu, mku av]).shown)))) (Wk.refl _) ?_
  refine hasS_0 (hasS_ifret (b := false) (c2 := 0) (c3 := 0) (hast_conv (hast_test (has_neS (has_repr (d := mkD [mku tu, mku av]) (has_lst (has_cons (has_callOU (has_cons (has_var rfl) (has_cons (has_var rfl) has_nil)) rfl sc) (has_cons (has_callOU (has_cons (has_var rfl) (has_cons (has_var rfl) has_nil)) rfl df) has_nil)) (by simp)) rfl pshw (Nat.le_refl _) (by decide)) (has_var rfl))) (by simp)) (fun z => by cases z) fun _ => ?_) rfl
  refine hasS_0 (hasS_ret (has_conv (has_andV (has_eq (has_callKU (cs := av.1.map encK) (s := encF av.2) (ds := [sd, gd]) (has_cons (has_var rfl) (has_cons (has_var rfl) has_nil)) (fun H vs h => g2K_dq h) rfl df) (has_var rfl) (eqOk_encU av) (eqOk_encU av)) fun _ => has_eq (has_callOU (has_cons (has_var rfl) (has_cons (has_var rfl) has_nil)) rfl dn) (has_tup (has_cons (has_lst (has_cons (has_tup (has_cons (has_tup (has_cons has_int (has_cons has_int has_nil)) (by simp)) (has_cons (has_tup (has_cons has_int (has_cons has_int has_nil)) (by simp)) has_nil)) (by simp)) has_nil) (by simp)) (has_cons (has_tup (has_cons has_int (has_cons has_int has_nil)) (by simp)) has_nil)) (by simp)) (eqOk_encU (apart u u)) (eqOk_encU ([((0 : Rat), (0 : Rat))], 0))) ?_)) rfl
  have e1 : PyData.eqv (encU av) (encU av) = true := by rw [eqv_encU]; simp
  have e2 : PyData.eqv (encU (apart u u)) (encU ([((0 : Rat), (0 : Rat))], 0)) = true := by rw [eqv_encU, apart_self po.tu.crv]; simp
  exact congrArg PyData.bool ((Bool.and_eq_true_iff).mpr ⟨e1, e2⟩)
end
end Q6
end
section
set_option maxHeartbeats 4000000
set_option exponentiation.threshold 2000000
/-! law. -/
namespace Q6
open PySem PySem.Spec PyProof.Rows L2 LamX RZ Qk
/-! ### curves in a list that still grows -/
theorem dq_lst_tup {C : Cf} {H : Hp} {v : V} {ds es : List PyData} (h1 : Dq C H v (.list ds)) (h2 : Dq C H v (.tuple es)) : False := by
  obtain ⟨p, xs, e, h, _⟩ := d_lst h1
  obtain ⟨p', xs', e', h', _⟩ := d_tup h2
  rw [e] at e'
  cases e'
  rw [h] at h'
  cases h'
/-- a curve does not hold the list of curves -/
theorem encU_avoid {C : Cf} {M : List Addr} {H : Hp} {l : Addr} {xs : List V} {us : List Cur} {v : V} {u : Cur} (hl : H l = some (.lst xs)) (hr : DqAll C (hide M H) xs (us.map encU)) (h : Dq C (hide M H) v (encU u)) (hn : u.1 ≠ []) : Dq C (hide (l :: M) H) v (encU u) := by
  obtain ⟨p, ys, rfl, hp, r⟩ := d_tup h
  cases r with
  | cons r1 r =>
    cases r with
    | cons r2 r =>
      cases r
      obtain ⟨q, zs, rfl, hq, rz⟩ := d_lst r1
      obtain ⟨p1, p2⟩ := hide_some hp
      obtain ⟨q1, q2⟩ := hide_some hq
      have ql : q ≠ l := fun z => by
        rw [z, hl] at q2
        have e : xs = zs := by injection Option.some.inj q2
        subst e
        obtain ⟨k, c, ec⟩ := List.exists_cons_of_ne_nil hn
        rw [ec] at rz
        cases us with
        | nil => cases hr; cases rz
        | cons u' us =>
          cases hr with
          | cons a1 _ =>
            cases rz with
            | cons b1 _ =>
              obtain ⟨t, ws, e1, ht, rt⟩ := d_tup a1
              obtain ⟨t', ws', e2, ht', rt'⟩ := d_tup b1
              rw [e1] at e2
              cases e2
              rw [ht] at ht'
              have e3 : ws = ws' := by injection Option.some.inj ht'
              subst e3
              cases rt with
              | cons c1 _ =>
                cases rt' with
                | cons c2 _ => exact dq_lst_tup c1 c2
      have hide1 : ∀ b o, b ≠ l → hide M H b = some o → hide (l :: M) H b = some o := fun b o nb e => by
        obtain ⟨e1, e2⟩ := hide_some e
        rw [hide_out fun z => by
          rcases List.mem_cons.mp z with z | z
          · exact nb z
          · exact e1 z]
        exact e2
      have pl : p ≠ l := fun z => by rw [z, hl] at p2; cases p2
      have rz' : DqAll C (hide (l :: M) H) zs (u.1.map encK) := dqA_avoid hl rz (noL_encK _)
      have r2' : Dq C (hide (l :: M) H) _ (encF u.2) := dq_avoid hl r2 rfl
      exact .tup (hide1 p _ pl hp) (.cons (.lst (hide1 q _ ql hq) rz') (.cons r2' .nil))
section
variable {C : Cf} {Γ : Cxt} {te : TE} {c c1 c2 : Nat} {A : Own} {B : Post} {R : Res} {rest : TS} {P : Cur → Prop} {n j : Nat} {l : Addr} {us : List Cur} {ds : List PyData}
theorem peekU {M0 : List Addr} {H0 N : Hp} {k : Nat} {σ : L2.St} {H : Hp} (hg : Γ[n]? = some (some (tyV (.ref l)))) (h : HasE C c te (Γ.set n (some (tyD C (.list (us.map encU))))) (tyP C fun d => ∃ u, d = encU u ∧ u.1 ≠ [] ∧ P u)) (a : At0 C (k + c) M0 H0 N ((l, us.map encU) :: A) Γ σ H)
    {Q : VK} (q : ∀ v H' u, P u → At0 C k M0 H0 N ((l, us.map encU) :: A) Γ σ H' → Dq C (hide (((l, us.map encU) :: A).map (·.1) ++ M0) H') v (encU u) → Q v H') : te σ H Q := by
  obtain ⟨_, hn, xs, hx, hr⟩ := a.own (l, us.map encU) (List.mem_cons_self ..)
  have a0 := own_drop hg a
  refine h _ k σ H _ a0.ok a0.sat fun y H1 g1 o1 ⟨d, ⟨u, e, hu, hp⟩, p⟩ => ?_
  subst e
  have hx1 : H1 l = some (.lst xs) := g1.at (fun z => hn (a.ok0.sub _ z)) hx (fun ps z => by cases z)
  have o2 : Ok C k (((l, us.map encU) :: A).map (·.1) ++ M0) H1 := ⟨fun b hb => by
    rcases List.mem_cons.mp hb with e | e
    · subst e; exact ⟨xs, hx1⟩
    · exact o1.dom b e, o1.tabs, a.ok.sub, o1.str⟩
  have x0 : ExtN (hide (l :: (A.map (·.1) ++ M0)) H1) (hide (A.map (·.1) ++ M0) H1) := ext_more fun b hb => List.mem_cons_of_mem _ hb
  have hr1 : DqAll C (hide (A.map (·.1) ++ M0) H1) xs (us.map encU) := (hr.ext (g1.k a.ok)).ext x0
  exact q y H1 u hp (a.gos g1 o2) (encU_avoid hx1 hr1 p hu)
theorem hasS_seq_peekU (hg : Γ[n]? = some (some (tyV (.ref l)))) (h : HasE C c1 te (Γ.set n (some (tyD C (.list (us.map encU))))) (tyP C fun d => ∃ u, d = encU u ∧ u.1 ≠ [] ∧ P u)) (hr : ∀ u, P u → HasS C c2 rest (Γ.set j (some (tyD C (encU u)))) ((l, us.map encU) :: A) B R) : HasS C (c1 + c2) (tSeq (tAsg te (gName j)) rest) Γ ((l, us.map encU) :: A) B R := fun M0 H0 N k σ H D a q r =>
  peekU (k := k + c2) hg h (a.le (by omega)) fun v H1 u hp a1 p => hr u hp M0 H0 N k _ H1 D ⟨a1.ok, a1.ok0, a1.gone, a1.kept, a1.own, a1.nd, a1.sat.set (τ := tyD C (encU u)) p⟩ q r
theorem hasS_appendN {P : PyData → Prop} (hg : Γ[n]? = some (some (tyV (.ref l)))) (h : HasE C c te Γ (tyP C P)) (hz : ds.length < 100000) (hb : ∀ d, P d → B Γ ((l, ds ++ [d]) :: A)) :
    HasS C c (tDrop (tBM C.K "list" rAppend (tVar n) (tCons te tNil))) Γ ((l, ds) :: A) B R := fun M0 H0 N k σ H D a q r => by
  obtain ⟨v, e1, e2⟩ := a.sat.2 n _ hg
  have e2 : v = .ref l := e2
  subst e2
  obtain ⟨_, hn, xs, hx, hr⟩ := a.own (l, ds) (List.mem_cons_self ..)
  refine ⟨.ref l, e1, .inl ⟨rfl, _, sqL_of hx⟩, h _ k σ H _ a.ok a.sat fun y H1 g1 o1 ⟨d, hd, p⟩ => ?_⟩
  have a1 := a.gos g1 o1
  have hx1 : H1 l = some (.lst xs) := g1.at (fun z => hn (a.ok0.sub _ z)) hx (fun ps z => by cases z)
  refine ⟨l, xs, y, rfl, rfl, hx1, ?_, q _ _ _ _ (hb d hd) (own_put a1 (List.mem_cons_self ..) hx1 (dA_app (hr.ext (g1.k a.ok)) (dA_one p)) rfl fun p' hp => ?_)⟩
  · rw [dA_len hr]; exact Nat.lt_of_lt_of_le hz (small_line (Nat.le_refl _))
  · rcases List.mem_cons.mp hp with e | e
    · exact .inl e
    · refine .inr ⟨fun z => ?_, List.mem_cons_of_mem _ e⟩
      have nd := List.nodup_cons.mp a.nd
      exact nd.1 (by rw [← z]; exact List.mem_map.mpr ⟨p', e, rfl⟩)
end
theorem Dr.mono {j j' : Nat} {u : Cur} (h : Dr j u) (l : j ≤ j') : Dr j' u := ⟨h.told, h.len, fun k hk => ⟨(h.cor k hk).1, (h.cor k hk).2.mono (by omega)⟩, h.slp.mono (by omega)⟩
theorem Dr.ne {j : Nat} {u : Cur} (h : Dr j u) : u.1 ≠ [] := by obtain ⟨w, r, e⟩ := h.told.crv.zero; rw [e]; simp
theorem passed_all : ∀ {us : List Cur} {ys : List PyData}, Paired passU us ys → ∃ ps, Paired Given ys ps ∧ ps.map tld = us
  | _, _, .nil => ⟨[], .nil, rfl⟩
  | _, _, .cons h r => by
    obtain ⟨L, h1, h2, _⟩ := h
    obtain ⟨ps, h3, h4⟩ := passed_all r
    exact ⟨_ :: ps, .cons h1 h3, by rw [List.map_cons, h2, h4]⟩
section
variable {P : Program} {w : World} {K : PySem.W.Frag} {mg : Str → Option Value} {base : Heap} {TT : List (Addr × Str)}
/-- the stream, made of the script -/
def spStream (K : PySem.W.Frag) : Sp := fun vs H Q _ => ∃ (a : Addr) (ns : List Int), vs = [.ref a] ∧ SqL K H a (ns.map V.int) ∧ ∀ (s l : Addr) (H' : Hp), (∀ b o, H b = some o → H' b = some o) → s ≠ l → H' s = some (.lst [.ref l, .int 0, .int 0, .int 17]) → H' l = some (.lst (ns.map V.int)) → Q (.ref s) H'
theorem ok_l_stream2 (T : Txt mg) (O : OddOk K) (F : At K mg "_law_stream" 52) : Def P w K mg base CX0 1 "_law_stream" P_l_stream (spStream K) := by
  have nd := sc_l_stream.nd
  have hu65 : ∀ {k A}, Room k A → A.units + 65 < cLine := fun r => by have := r.un; omega
  refine def_of0 F sc_l_stream (fun _ _ _ _ _ _ us hl => match us, hl with | [_], _ => rfl) (fun vs H Q E h => ?_) (fun cdv A outer s H vs Q E hr h => ⟨_, (pss_one (ps_ret (pe_lst (pa_cons (pe_callTy call_list_of (by rfl) T.fr_list bb_list (pa_cons (pv 0) pa_nil)) (pa_cons pe_int (pa_cons pe_int (pa_cons pe_int pa_nil))))))), ?_⟩)
  · obtain ⟨a, ns, e, _⟩ := h; rw [e]; rfl
  · obtain ⟨a, ns, rfl, hS, q⟩ := h
    refine ⟨_, rfl, a, _, rfl, .inl hS, fun l hl => ⟨small_line (by simp), fun s hs => ?_⟩⟩
    have hsl : s ≠ l := fun z => by rw [z, upd_same] at hs; cases hs
    have hs0 : H s = none := by rwa [upd_ne hsl] at hs
    refine q s l _ (fun b o e => ?_) hsl upd_same (by rw [upd_ne (Ne.symm hsl)]; exact upd_same)
    have b1 : b ≠ l := ne_of_none e hl
    have b2 : b ≠ s := ne_of_none e hs0
    rw [upd_ne b2, upd_ne b1]; exact e
/-- the law's promise -/
def spLaw (TT : List (Addr × Str)) (K : PySem.W.Frag) : Sp := fun vs H Q _ => ∃ (a : Addr) (ns : List Int), vs = [.ref a] ∧ ns.length ≤ 63 ∧ SqL K H a (ns.map V.int) ∧ Tabs TT H ∧ ∀ H', Q (.bl true) H'
abbrev N_law : List Str := ["_law_script", "_law_stream_here", "_law_turn", "_law_curves", "_law_k", "_law_near", "_law_given", "_law_was", "_law_one", "_law_curve"]
abbrev P_law : List Str := ["_law_script"]
theorem sc_law : FnScope N_law P_law (defScope (top 91)) := ⟨rfl, rfl, rfl, by decide +kernel, rfl, by decide +kernel, by decide +kernel⟩
theorem law_start {rest : TS} {D : Ends} {H : Hp} {a : Addr} {ns : List Int} (hS : SqL K H a (ns.map V.int)) (h : ∀ (s l : Addr) (H' : Hp), (∀ b o, H b = some o → H' b = some o) → s ≠ l → H' s = some (.lst [.ref l, .int 0, .int 0, .int 17]) → H' l = some (.lst (ns.map V.int)) → rest D ((L2.start N_law [V.ref a]).set 1 (some (.ref s))) H') :
    tSeq (tAsg (tCall (spStream K) [] E0 (tCons (tVar 0) tNil)) (gName 1)) rest D (L2.start N_law [V.ref a]) H := ⟨.ref a, rfl, a, ns, rfl, hS, fun s l H1 hk hsl e1 e2 => h s l H1 hk hsl e1 e2⟩
theorem ok_law (T : Txt mg) (O : OddOk K) (ZL : ∀ us : List Cur, us.length ≤ 5 → (∀ u ∈ us, Dr 5 u) → ListsOk us) (ZP : ∀ u v : Cur, Dr 5 u → Dr 5 v → ∀ f, Sz 20 f → PairOk u v f)
    (D_l_stream : Def P w K mg base CX0 1 "_law_stream" P_l_stream (spStream K)) (D_l_c_drawn : Def P w K mg base CX0 6 "_law_c_drawn" P_l_c_drawn (spR TT K 40 F_l_c_drawn 2)) (D_l_c_passed : Def P w K mg base CX0 11 "_law_c_passed" P_l_c_passed (spR TT K 10100 F_l_c_passed 2)) (D_l_pair_right : DefG P w K mg base 12 "_law_pair_right" P_l_pair_right (spR TT K 20300 F_l_pair_right 3))
    (D_l_refused_right : Def P w K mg base CX0 13 "_law_refused_right" P_l_refused_right (spR TT K 3 F_l_refused_right 3)) (D_l_draw : Def P w K mg base CX0 1 "_law_draw" P_l_draw (spR TT K 1 F_l_draw 2)) (D_l_pick : Def P w K mg base CX0 2 "_law_pick" P_l_pick (spR TT K 1 F_l_pick 2)) (D_l_lists_right : DefG P w K mg base 11 "_law_lists_right" P_l_lists_right (spD TT K F_l_lists_right 2)) (D_l_c_near : Def P w K mg base CX0 6 "_law_c_near" P_l_c_near (spR TT K 10 F_l_c_near 2))
    (F : At K mg "law" 91) : DefG P w K mg base 14 "law" P_law (spLaw TT K) := by
  have nd := sc_law.nd
  have hu65 : ∀ {k A}, Room k A → A.units + 65 < cLine := fun r => by have := r.un; omega
  refine def_ofG F sc_law (fun _ _ _ _ _ _ us hl => match us, hl with | [_], _ => rfl) (fun vs H Q E h => ?_) (fun cdv A outer s H vs Q E hg hr h => ⟨_, (pss_cons (ps_set (i := 1) nd rfl (Or.inr rfl) (pe_callD D_l_stream hr (by decide) rfl pass0 (pa_cons (pv 0) pa_nil)))
    (pss_cons (ps_for PassesOwn.never rfl (pi_range1 rfl T.fr_range (pa_cons pe_int pa_nil)) (pg_name (i := 2) nd rfl (Or.inl rfl)) (pss_cons (ps_set (i := 3) nd rfl (Or.inl rfl) (pe_lst pa_nil))
    (pss_cons (ps_for PassesOwn.never rfl (pi_range1 rfl T.fr_range (pa_cons (pe_ifExp (pt_cmpR op_gt (pv 2) pe_int (nomark _)) (pe_callD D_l_draw hr (by decide) rfl pass0 (pa_cons (pv 1) (pa_cons pe_int pa_nil))) pe_int) pa_nil)) (pg_name (i := 4) nd rfl (Or.inl rfl)) (pss_cons (ps_set (i := 5) nd rfl (Or.inl rfl) (pe_ifExp (pt_cmpR (op_neD (Room.eq hr)) (pv 3) (pe_lst pa_nil) (nomark _)) (pe_callD D_l_pick hr (by decide) rfl pass0 (pa_cons (pv 1) (pa_cons (pv 3) pa_nil))) (pe_callD D_l_c_drawn hr (by decide) rfl pass0 (pa_cons (pv 1) (pa_cons pe_int pa_nil)))))
    (pss_one (ps_expr (pe_bm PySem.F.plainAttrs_list PySem.F.slot_list_append PySem.F.type_list_append mt_append (pv 3) (pa_cons (pe_callD D_l_pick hr (by decide) rfl pass0 (pa_cons (pv 1) (pa_cons (pe_lst (pa_cons (pv 5) (pa_cons (pe_callD D_l_c_near hr (by decide) rfl pass0 (pa_cons (pv 1) (pa_cons (pv 5) pa_nil))) (pa_cons (pe_callD D_l_c_drawn hr (by decide) rfl pass0 (pa_cons (pv 1) (pa_cons pe_int pa_nil))) pa_nil)))) pa_nil))) pa_nil))))))
    (pss_cons (ps_setLc (own := [("_law_curve", 9)]) (g := (gName 9)) (tt := tYes) (te := (tCall (spR TT K 10100 F_l_c_passed 2) [] (fun _ _ _ => False) (tCons (tVar 1) (tCons (tVar 9) tNil)))) (i := 6) rfl nd rfl rfl (sw_true rfl rfl rfl (by decide +kernel)) (pi_seq (pv 3)) (blkOk_by (N := N_law) (sc := defScope (top 91)) (own := [("_law_curve", 9)]) (by decide +kernel)) (fun _ _ _ _ _ => (pg_name (i := 9) nd rfl (Or.inl rfl))) (fun _ _ _ _ _ => pts_nil) (fun _ _ _ _ _ => (pe_callD D_l_c_passed hr (by decide) rfl pass0 (pa_cons (pv 1) (pa_cons (pv 9) pa_nil)))))
    (pss_cons (ps_set (i := 6) nd rfl (Or.inl rfl) (pe_ifExp (pt_cmpR (op_eqD (Room.eq hr)) (pe_callD D_l_draw hr (by decide) rfl pass0 (pa_cons (pv 1) (pa_cons pe_int pa_nil))) pe_int (nomark _)) (pv 6) (pe_callTy call_tuple_of (by rfl) T.fr_tuple bb_tuple (pa_cons (pv 6) pa_nil))))
    (pss_cons (ps_set (i := 7) nd rfl (Or.inl rfl) (pe_callB (call_repr hg (Room.eq hr)) (by rfl) T.fr_repr bb_repr (pa_cons (pv 6) pa_nil)))
    (pss_cons (ps_if (PW.pt (pw_or (pt_not (pt_val (pe_callG D_l_lists_right hg hr (by decide) rfl (pa_cons (pv 3) (pa_cons (pv 6) pa_nil))))) (pw_or1 (pt_cmpR L2.op_ne (pe_callB (call_repr hg (Room.eq hr)) (by rfl) T.fr_repr bb_repr (pa_cons (pv 6) pa_nil)) (pv 7) (nomark _))))) (pss_one (ps_ret pe_bl)) pss_nil)
    (pss_cons (ps_set (i := 8) nd rfl (Or.inl rfl) (pe_callD D_l_c_drawn hr (by decide) rfl pass0 (pa_cons (pv 1) (pa_cons pe_int pa_nil))))
    (pss_cons (ps_if (pt_not (pt_val (pe_callG D_l_pair_right hg hr (by decide) rfl (pa_cons (pv 1) (pa_cons (pv 8) (pa_cons (pe_callD D_l_pick hr (by decide) rfl pass0 (pa_cons (pv 1) (pa_cons (pe_lst (pa_cons (pe_callD D_l_c_near hr (by decide) rfl pass0 (pa_cons (pv 1) (pa_cons (pv 8) pa_nil))) (pa_cons (pe_callD D_l_c_drawn hr (by decide) rfl pass0 (pa_cons (pv 1) (pa_cons pe_int pa_nil))) (pa_cons (pv 8) pa_nil)))) pa_nil))) pa_nil)))))) (pss_one (ps_ret pe_bl)) pss_nil)
    (pss_one (ps_if (pt_not (pt_val (pe_callD D_l_refused_right hr (by decide) rfl pass0 (pa_cons (pv 1) (pa_cons (pv 3) (pa_cons (pv 6) pa_nil)))))) (pss_one (ps_ret pe_bl)) pss_nil)))))))))))
    (pss_one (ps_ret pe_bl)))), ?_⟩)
  · obtain ⟨a, ns, e, _⟩ := h; rw [e]; rfl
  obtain ⟨a, ns, rfl, hn, hS, hT, q⟩ := h
  refine law_start hS fun s0 l0 H1 hk hsl e1 e2 => ?_
  have okS : Ok ⟨K, TT, [s0, l0]⟩ (0 + 400000) [s0, l0] H1 := ⟨fun b hb => by
    simp only [List.mem_cons, List.not_mem_nil, or_false] at hb
    rcases hb with rfl | rfl
    · exact ⟨_, e1⟩
    · exact ⟨_, e2⟩, hT.ext hk, fun b hb => hb, .inr ⟨s0, l0, ns, 0, 0, 17, rfl, hsl, e1, e2, by decide, by decide, by decide, by decide, by decide, by omega⟩⟩
  let Γ1 : Cxt := [none, some (tyD ⟨K, TT, [s0, l0]⟩ strD), none, none, none, none, none, none, none, none]
  have sat0 : Sat Γ1 ((L2.start N_law [V.ref a]).set 1 (some (.ref s0))) (hide [s0, l0] H1) := by
    refine ⟨rfl, fun i τ e => ?_⟩
    match i, e with
    | 0, e => cases e
    | 1, e => cases e; exact ⟨.ref s0, rfl, .strm rfl⟩
    | 2, e => cases e
    | 3, e => cases e
    | 4, e => cases e
    | 5, e => cases e
    | 6, e => cases e
    | 7, e => cases e
    | 8, e => cases e
    | 9, e => cases e
    | _ + 10, e => cases e
  have key : ∀ rest : TS, HasS ⟨K, TT, [s0, l0]⟩ 400000 rest Γ1 [] nvr (rD (.bool true)) → rest { nx := fun _ H' => Q .non H', rt := Q } ((L2.start N_law [V.ref a]).set 1 (some (.ref s0))) H1 := fun rest h => h [s0, l0] H1 _ 0 _ H1 _ ⟨okS, okS, go.refl H1, ExtN.refl _, fun p hp => (nomatch hp), List.nodup_nil, sat0⟩ (fun _ _ _ _ z => z.elim) fun v H' g o r => by rw [d_bl r]; exact q H'
  refine key _ ?_
  have drawnC : ∀ {Γ : Cxt} {E : XK}, Γ[1]? = some (some (tyD ⟨K, TT, [s0, l0]⟩ strD)) → HasE ⟨K, TT, [s0, l0]⟩ (0 + (0 + 0) + 40) (tCall (spR TT K 40 F_l_c_drawn 2) [] E (tCons (tVar 1) (tCons (tC (.int 5)) tNil))) Γ (tyP ⟨K, TT, [s0, l0]⟩ (drU 0)) := fun h1 => has_callR (C := ⟨K, TT, [s0, l0]⟩) (c2 := 40) (has_cons (has_var h1) (has_cons has_int has_nil)) fun l e => ⟨by rw [e]; rfl, _, ⟨e, rfl⟩, fun _ _ _ _ h => h⟩
  have nearC : ∀ {Γ : Cxt} {E : XK} {i j : Nat} {u : Cur}, Γ[1]? = some (some (tyD ⟨K, TT, [s0, l0]⟩ strD)) → Γ[i]? = some (some (tyD ⟨K, TT, [s0, l0]⟩ (encU u))) → Dr j u → j ≤ 20 → HasE ⟨K, TT, [s0, l0]⟩ (0 + (0 + 0) + 10) (tCall (spR TT K 10 F_l_c_near 2) [] E (tCons (tVar 1) (tCons (tVar i) tNil))) Γ (tyP ⟨K, TT, [s0, l0]⟩ (drU (j + 1))) := fun h1 h2 hu hj => has_callR (C := ⟨K, TT, [s0, l0]⟩) (c2 := 10) (has_cons (has_var h1) (has_cons (has_var h2) has_nil)) fun l e => ⟨by rw [e]; rfl, _, ⟨_, _, e, hu, hj, rfl⟩, fun _ _ _ _ h => h⟩
  have pick3 : ∀ {Γ : Cxt} {E : XK} {j c1 c2 c3 : Nat} {t1 t2 t3 : TE}, Γ[1]? = some (some (tyD ⟨K, TT, [s0, l0]⟩ strD)) → HasE ⟨K, TT, [s0, l0]⟩ c1 t1 Γ (tyP ⟨K, TT, [s0, l0]⟩ (drU j)) → HasE ⟨K, TT, [s0, l0]⟩ c2 t2 Γ (tyP ⟨K, TT, [s0, l0]⟩ (drU j)) → HasE ⟨K, TT, [s0, l0]⟩ c3 t3 Γ (tyP ⟨K, TT, [s0, l0]⟩ (drU j)) → HasE ⟨K, TT, [s0, l0]⟩ (0 + (c1 + (c2 + (c3 + 0)) + 0) + 1) (tCall (spR TT K 1 F_l_pick 2) [] E (tCons (tVar 1) (tCons (tLst (tCons t1 (tCons t2 (tCons t3 tNil)))) tNil))) Γ (tyP ⟨K, TT, [s0, l0]⟩ (drU j)) := fun {Γ E j c1 c2 c3 t1 t2 t3} h0 h1 h2 h3 => has_callR (C := ⟨K, TT, [s0, l0]⟩) (c2 := 1) (has_consN (P := (· = strD)) (has_any (has_var h0) rfl) (has_consN (has_lstN (has_consN h1 (has_consN h2 (has_consN h3 has_nil))) (by rintro ds ⟨_, _, rfl, _, _, _, rfl, _, _, _, rfl, _, rfl⟩; simp)) has_nil)) (by
    rintro l ⟨_, _, rfl, rfl, _, _, rfl, ⟨ds, rfl, x, _, rfl, hx, y, _, rfl, hy, z, _, rfl, hz, rfl⟩, rfl⟩
    refine ⟨rfl, rP (· ∈ [x, y, z]), ⟨[x, y, z], rfl, by simp, by simp, rfl⟩, fun M H v H' ⟨d, h1, h2⟩ => ?_⟩
    simp only [List.mem_cons, List.not_mem_nil, or_false] at h1
    rcases h1 with rfl | rfl | rfl
    · exact ⟨_, hx, h2⟩
    · exact ⟨_, hy, h2⟩
    · exact ⟨_, hz, h2⟩)
  have drLe : ∀ {j j' : Nat}, j ≤ j' → ∀ d, drU j d → drU j' d := fun l d ⟨u, e, h⟩ => ⟨u, e, h.mono l⟩
  refine hasS_le (c1 := 0 + (List.range 4).length * 80000 + 0) (hasS_seq (Γ1 := Γ1) (A1 := []) (hasS_for (c := 80000) (List.range 4) (fun i => .int (i : Nat)) (fun _ => Γ1) (fun _ => []) (i_range (n := 4) has_int (by decide)) (Wk.refl _) rfl (fun _ => rfl) (fun pre x suf ex => ⟨_, _, g_name, ?_⟩) fun Γ' w => ⟨w, rfl⟩) (hasS_ret has_bl)) (by decide)
  refine hasS_le (c1 := 0 + 79000) (hasS_seq_own (f_lst has_nil (by simp)) fun L es e => ?_) (by decide)
  subst e
  let Γ3 : Cxt := [none, some (tyD ⟨K, TT, [s0, l0]⟩ strD), none, some (tyV (.ref L)), none, none, none, none, none, none]
  refine hasS_le (c1 := _ + 5 * 200 + 77000) (hasS_seqP (B1 := fun Γ' A' => ∃ us : List Cur, Wk Γ' Γ3 ∧ A' = [(L, us.map encU)] ∧ us.length ≤ 5 ∧ ∀ u ∈ us, Dr 5 u)
    (hasS_forP (n := 5) (L := fun l => ∃ m : Nat, (0 ≤ (m : Int) ∧ (m : Int) ≤ 5) ∧ l = (List.range m).map fun i => .int (i : Nat)) (Inv := fun _ pre Γ' A' => ∃ us : List Cur, Wk Γ' Γ3 ∧ A' = [(L, us.map encU)] ∧ us.length = pre.length ∧ ∀ u ∈ us, Dr pre.length u)
      (i_rangeI (S := fun i => 0 ≤ i ∧ i ≤ 5) (has_le (c := 1) (has_if (c2 := 1) (c3 := 0) (hast_test (has_b2 (has_var rfl) has_int)) (fun _ => has_subP (has_drawC (n := 6) (has_cons (has_var rfl) (has_cons has_int has_nil)) (by decide) (by decide)) fun d ⟨i, e, h0, h1⟩ => ⟨i, e, h0, by omega⟩) fun _ => has_any has_int ⟨0, rfl, by decide, by decide⟩) (by decide)) fun i h => by omega) ?_ ?_ ?_ ?_ ?_) fun Γ' A' ⟨us, hw, eA, hl, hd⟩ => ?_) (by decide)
  · rintro ds ⟨m, hm, rfl⟩; simp; omega
  · rintro ds _
    exact ⟨[], .same (.same (.drop (.same (.same (.same (.same (.same (.same (.same .nil))))))))), rfl, rfl, by simp⟩
  · rintro ds pre Γ' A' _ ⟨us, _, rfl, _⟩; rfl
  · rintro ds pre x' suf' Γ' A' ⟨m, hm, rfl⟩ ex' ⟨us, hw, rfl, hlen, hdr⟩
    have hpm : pre.length < m := by
      have := congrArg List.length ex'
      simp at this; omega
    have hp4 : pre.length ≤ 4 := by omega
    refine ⟨_, _, g_wk hw g_name, ?_⟩
    refine hasS_le (c1 := 100 + 100) (hasS_seq_peekU (n := 3) (j := 5) (us := us) (P := fun u => Dr pre.length u) rfl (has_le (has_if (c2 := 50) (c3 := 50) (hast_test (has_ne (has_var rfl) (has_lst has_nil (by simp)) (eqOk_encUs us) eqOk_nil)) (fun hq => has_le (has_subP (has_pickC (xs := us.map encU) (has_cons (has_var rfl) (has_cons (has_var rfl) has_nil)) ?_ ?_) ?_) (by decide)) fun _ => has_le (has_subP (drawnC rfl) ?_) (by decide)) (by decide)) fun u hu => ?_) (by decide)
    · rw [List.length_map]
      cases us with
      | nil => cases hq
      | cons u us => simp
    · rw [List.length_map]; omega
    · rintro d hd
      obtain ⟨u, h1, h2⟩ := List.mem_map.mp hd
      exact ⟨u, h2.symm, (hdr u h1).ne, hdr u h1⟩
    · rintro d ⟨u, e, h⟩
      exact ⟨u, e, h.ne, h.mono (Nat.zero_le _)⟩
    · refine hasS_le (hasS_appendN (n := 3) (P := drU (pre.length + 1)) rfl (pick3 rfl (has_any (has_var rfl) ⟨u, rfl, hu.mono (by omega)⟩) (nearC rfl rfl hu (by omega)) (has_subP (drawnC rfl) (drLe (by omega)))) (by rw [List.length_map]; omega) fun d ⟨u', e, hu'⟩ => ⟨us ++ [u'], .same (.same (.drop (.same (.drop (.drop (.same (.same (.same (.same .nil))))))))), by rw [List.map_append, e]; rfl, by simp [hlen], fun z hz => ?_⟩) (by decide)
      rw [List.length_append, List.length_singleton]
      rcases List.mem_append.mp hz with h | h
      · exact (hdr z h).mono (by omega)
      · obtain rfl : z = u' := by simpa using h
        exact hu'
  · rintro ds Γ' A' ⟨m, hm, rfl⟩ ⟨us, hw, rfl, hlen, hdr⟩
    have : us.length ≤ 5 := by rw [hlen]; simp; omega
    exact ⟨us, hw, rfl, this, fun u hu => (hdr u hu).mono (by simp; omega)⟩
  subst eA
  refine hasS_wk hw (hasS_drop (n := 3) rfl ?_)
  let Γ4 : Option Ty → Option Ty → Option Ty → Cxt := fun a b d => [none, some (tyD ⟨K, TT, [s0, l0]⟩ strD), none, some (tyD ⟨K, TT, [s0, l0]⟩ (.list (us.map encU))), none, none, a, b, d, none]
  refine hasS_wk (Δ := Γ4 none none none) (Wk.refl _) ?_
  refine hasS_le (c1 := _ + 26000) (hasS_seq_setN (has_mapP us encU passU (i_seq (has_var rfl) rfl) (n := 5) hl (by decide) fun u hu => ⟨_, _, g_name, by simp, has_callR (c2 := 10100) (has_cons (has_var rfl) (has_cons (has_var rfl) has_nil)) fun l e => ⟨by rw [e]; rfl, _, ⟨5, u, e, hd u hu, by decide, rfl⟩, fun _ _ _ _ h => h⟩⟩) fun d ⟨ys, e, hp⟩ => ?_) (by decide)
  subst e
  refine hasS_le (c1 := _ + 25000) (hasS_seq_setN (P := fun d => ∃ zs, seqD d = some zs ∧ Paired passU us zs) (has_ifN (hast_drawEq (has_drawC (n := 2) (has_cons (has_var rfl) (has_cons has_int has_nil)) (by decide) (by decide))) (fun _ => has_any (has_var rfl) ⟨ys, rfl, hp⟩) fun _ => has_subP (has_tupleP (P := (· = .list ys)) (L := (· = ys)) (has_any (has_var rfl) rfl) fun d e => ⟨ys, e, rfl⟩) fun d ⟨zs, e, ez⟩ => ⟨zs, by rw [e]; rfl, by rw [ez]; exact hp⟩) fun g ⟨zs, eg, hpz⟩ => ?_) (by decide)
  obtain ⟨ps, hps, htl⟩ := passed_all hpz
  have hgv : Givens g ps := ⟨zs, eg, hps, by have := Paired.len hpz; omega⟩
  have hpl : ps.length = us.length := by rw [← htl, List.length_map]
  have shg : Shw (5 * 283) 5 g := shw_seq (m := 5) (n := 282) (k := 4) eg (fun z hz => by
    obtain ⟨u, _, h⟩ := Paired.get hpz z hz
    exact h.shw) (by have := Paired.len hpz; omega)
  refine hasS_wk (Δ := Γ4 (some (tyD ⟨K, TT, [s0, l0]⟩ g)) none none) (Wk.refl _) ?_
  refine hasS_le (c1 := 0 + 25000) (hasS_seq_set (has_repr (has_var rfl) eg shg (by decide) (by decide)) ?_) (by decide)
  refine hasS_le (c1 := 0 + (0 + 25000)) (hasS_ifret (b := false) (c2 := 0) (c3 := 25000) (hast_conv (hast_or (hast_not (hast_B (has_call (has_cons (has_var rfl) (has_cons (has_var rfl) has_nil)) rfl ⟨us, g, ps, rfl, hgv, htl, ZL us hl hd, rfl⟩))) fun _ => hast_test (has_neS (has_repr (has_var rfl) eg shg (by decide) (by decide)) (has_var rfl))) (by simp)) (fun z => by cases z) fun _ => ?_) (by decide)
  refine hasS_le (c1 := _ + 24000) (hasS_seq_setN (drawnC rfl) fun d ⟨one, e, hone⟩ => ?_) (by decide)
  subst e
  refine hasS_wk (Δ := Γ4 (some (tyD ⟨K, TT, [s0, l0]⟩ g)) none (some (tyD ⟨K, TT, [s0, l0]⟩ (encU one)))) (.same (.same (.same (.same (.same (.same (.same (.drop (.same (.same .nil)))))))))) ?_
  have pairC : HasE ⟨K, TT, [s0, l0]⟩ 23000 (tCall (spR TT K 20300 F_l_pair_right 3) [] E0 (tCons (tVar 1) (tCons (tVar 8) (tCons (tCall (spR TT K 1 F_l_pick 2) [] E0 (tCons (tVar 1) (tCons (tLst (tCons (tCall (spR TT K 10 F_l_c_near 2) [] E0 (tCons (tVar 1) (tCons (tVar 8) tNil))) (tCons (tCall (spR TT K 40 F_l_c_drawn 2) [] E0 (tCons (tVar 1) (tCons (tC (.int 5)) tNil))) (tCons (tVar 8) tNil)))) tNil))) tNil)))) (Γ4 (some (tyD ⟨K, TT, [s0, l0]⟩ g)) none (some (tyD ⟨K, TT, [s0, l0]⟩ (encU one)))) (tyD ⟨K, TT, [s0, l0]⟩ (.bool true)) :=
    has_le (has_callR (C := ⟨K, TT, [s0, l0]⟩) (c2 := 20300) (has_consN (P := (· = strD)) (has_any (has_var rfl) rfl) (has_consN (P := (· = encU one)) (has_any (has_var rfl) rfl) (has_consN (P := drU 1) (pick3 rfl (nearC rfl rfl hone (by decide)) (has_subP (drawnC rfl) (drLe (by decide))) (has_any (has_var rfl) ⟨one, rfl, hone.mono (by decide)⟩)) has_nil))) (by
      rintro l ⟨_, _, rfl, rfl, _, _, rfl, rfl, _, _, rfl, ⟨other, rfl, ho⟩, rfl⟩
      exact ⟨rfl, rD (.bool true), ⟨0, 1, one, other, rfl, hone, ho, by decide, by decide, ZP one other (hone.mono (by decide)) (ho.mono (by decide)), rfl⟩, fun _ _ _ _ h => h⟩)) (by decide)
  refine hasS_le (c1 := 23000 + (0 + 1000)) (hasS_ifret (b := false) (c2 := 0) (c3 := 1000) (hast_conv (hast_not (hast_B pairC)) rfl) (fun z => by cases z) fun _ => ?_) (by decide)
  refine hasS_le (c1 := 3 + (0 + 0)) (hasS_if (b := false) (c2 := 0) (c3 := 0) (hast_conv (hast_not (hast_B (has_le (c := 3) (has_callR (C := ⟨K, TT, [s0, l0]⟩) (τ := tyD ⟨K, TT, [s0, l0]⟩ (.bool true)) (c2 := 3) (has_cons (has_var rfl) (has_cons (has_var rfl) (has_cons (has_var rfl) has_nil))) fun l e => ⟨by rw [e]; rfl, rD (.bool true), ⟨us, g, ps, e, hgv, hpl, by omega, rfl⟩, fun _ _ _ _ h => h⟩) (by decide)))) rfl) (fun z => by cases z) fun _ => hasS_next ⟨.same (.same (.same (.drop (.same (.same (.drop (.same (.drop (.same .nil))))))))), rfl⟩) (by decide)
end
end Q6
end
section
set_option maxHeartbeats 4000000
set_option exponentiation.threshold 2000000
/-! The sizes of what is drawn. -/
namespace Q6
open PySem PySem.Spec PyProof.Rows L2 LamX RZ Qk
/-- a small curve -/
structure S20 (u : Cur) : Prop where
  told : Told u
  len : u.1.length ≤ 5
  cor : ∀ k ∈ u.1, Sz 20 k.1 ∧ Sz 20 k.2
  slp : Sz 20 u.2
theorem Dr.s20 {u : Cur} (h : Dr 5 u) : S20 u := ⟨h.told, h.len, fun k hk => ⟨(h.cor k hk).1.sz (by decide), (h.cor k hk).2.sz (by decide)⟩, h.slp.sz (by decide)⟩
theorem S20.crv {u : Cur} (h : S20 u) : Crv u.1 := h.told.crv
theorem S20.ne {u : Cur} (h : S20 u) : u.1 ≠ [] := by obtain ⟨w, r, e⟩ := h.crv.zero; rw [e]; simp
theorem S20.mom {u : Cur} (h : S20 u) : ∀ m ∈ Qk.mom u.1, Sz 20 m := fun m hm => by
  obtain ⟨k, hk, e⟩ := List.mem_map.mp hm
  rw [← e]; exact (h.cor k hk).1
theorem S20.val {u : Cur} (h : S20 u) {t : Rat} {T : Nat} (ht : Sz T t) : Sz (125 + T) (vl u t) ∧ Sz 82 (sl u t) := by
  obtain ⟨h1, h2⟩ := val_sz (n := 20) h.slp ht h.ne h.cor
  exact ⟨h1.mono (by omega), h2⟩
theorem S20.szU {u : Cur} (h : S20 u) : SzU u := ⟨fun k hk => ⟨(h.cor k hk).1.mono (by decide), (h.cor k hk).2.mono (by decide)⟩, h.slp.mono (by decide)⟩
theorem S20.fin {u : Cur} (h : S20 u) : Fin u := ⟨h.crv, h.szU, by have := h.len; omega, fun t h0 ht => ⟨(h.val ht).1.mono (by decide), (h.val ht).2.mono (by decide)⟩, fun m hm => (h.mom m hm).mono (by decide)⟩
theorem S20.times {u : Cur} (h : S20 u) : S20 (timesC (-1) u) := by
  refine ⟨timesC_told _ h.crv, Nat.le_trans normC_len (by unfold timesL; rw [List.length_map]; exact h.len), fun k hk => ?_, ?_⟩
  · have := normC_sub hk
    obtain ⟨k', h1, h2⟩ := List.mem_map.mp this
    rw [← h2]
    refine ⟨(h.cor k' h1).1, ?_⟩
    show Sz 20 (-1 * k'.2)
    rw [show (-1 : Rat) * k'.2 = -k'.2 by grind]
    exact (h.cor k' h1).2.neg
  · show Sz 20 (-1 * u.2)
    rw [show (-1 : Rat) * u.2 = -u.2 by grind]
    exact h.slp.neg
theorem zero_sz : Sz 1 (0 : Rat) := ⟨by decide, by decide⟩
theorem total_sz {n : Nat} : ∀ {l : List Rat}, (∀ q ∈ l, Sz n q) → Sz (l.length * (n + 1) + 1) (total l)
  | [], _ => by rw [List.length_nil, Nat.zero_mul]; exact zero_sz
  | a :: r, h => by
    rw [total_cons]
    have h1 := h a (List.mem_cons_self ..)
    have h2 := total_sz (l := r) fun q hq => h q (List.mem_cons_of_mem _ hq)
    refine (h1.add h2).mono ?_
    simp only [List.length_cons, Nat.add_mul]; omega
theorem momsOf_len {us : List Cur} {n : Nat} (h : ∀ u ∈ us, u.1.length ≤ n) : (momsOf us).length ≤ us.length * n := by
  induction us with
  | nil => simp [momsOf]
  | cons u us ih =>
    have h1 := h u (List.mem_cons_self ..)
    have h2 := ih fun v hv => h v (List.mem_cons_of_mem _ hv)
    simp only [momsOf, List.flatMap_cons, List.length_append, List.length_map, List.length_cons, Nat.add_mul] at h2 ⊢
    omega
theorem momsOf_all {us : List Cur} {P : Rat → Prop} (h : ∀ u ∈ us, ∀ m ∈ mom u.1, P m) : ∀ m ∈ momsOf us, P m := fun m hm => by
  obtain ⟨u, hu, h1⟩ := List.mem_flatMap.mp hm
  exact h u hu m h1
theorem sum_ok {us : List Cur} (hl : us.length ≤ 5) (h : ∀ u ∈ us, S20 u) : SumOk us := by
  have hm : ∀ m ∈ once (momsOf us ++ [0]), Sz 20 m := fun m hm => by
    rcases List.mem_append.mp (mem_once.mp hm) with z | z
    · exact momsOf_all (fun u hu m hm => (h u hu).mom m hm) m z
    · obtain rfl : m = 0 := by simpa using z
      exact zero_sz.mono (by decide)
  have pl : ∀ pre suf : List Cur, us = pre ++ suf → pre.length ≤ 5 ∧ ∀ u ∈ pre, S20 u := fun pre suf e => ⟨by have := congrArg List.length e; simp at this; omega, fun u hu => h u (by rw [e]; simp [hu])⟩
  refine ⟨fun u hu => (h u hu).fin, ?_, fun pre suf e m hm' => ?_, fun pre suf e => ?_⟩
  · have := momsOf_len (n := 5) fun u hu => (h u hu).len
    have h2 := Nat.mul_le_mul_right 5 hl
    omega
  · obtain ⟨h1, h2⟩ := pl pre suf e
    have := total_sz (n := 145) (l := pre.map fun c => vl c m) fun q hq => by
      obtain ⟨c, hc, e⟩ := List.mem_map.mp hq
      rw [← e]; exact ((h2 c hc).val (hm m hm')).1
    refine this.mono ?_
    rw [List.length_map]
    have := Nat.mul_le_mul_right (145 + 1) h1
    omega
  · obtain ⟨h1, h2⟩ := pl pre suf e
    have := total_sz (n := 20) (l := pre.map (·.2)) fun q hq => by
      obtain ⟨c, hc, e⟩ := List.mem_map.mp hq
      rw [← e]; exact (h2 c hc).slp
    refine this.mono ?_
    rw [List.length_map]
    have := Nat.mul_le_mul_right (20 + 1) h1
    omega
/-- the points of moments of a size -/
theorem pts_sz {M : List Rat} {n : Nat} (hn : 3 ≤ n) (h : ∀ m ∈ M, 0 ≤ m ∧ Sz n m) : ∀ t ∈ ptsOf M, 0 ≤ t ∧ Sz (2 * n + 5) t := by
  have hL : 0 ≤ M.getLast?.getD 0 ∧ Sz n (M.getLast?.getD 0) := by
    cases e : M.getLast? with
    | none => exact ⟨by simp, zero_sz.mono (by omega)⟩
    | some x => exact h x (List.mem_of_getLast? e)
  have seven : Sz 3 (7 : Rat) := ⟨by decide, by decide⟩
  have one : Sz 3 (1 : Rat) := ⟨by decide, by decide⟩
  intro t ht
  rcases List.mem_append.mp ht with z | z
  · rcases List.mem_append.mp z with z | z
    · obtain ⟨h1, h2⟩ := h t (List.mem_of_mem_take z)
      exact ⟨h1, h2.mono (by omega)⟩
    · obtain ⟨p, hp, hz⟩ := List.mem_flatMap.mp z
      have m1 := (List.of_mem_zip hp).1
      have m2 := List.mem_of_mem_drop (List.of_mem_zip hp).2
      obtain ⟨a1, a2⟩ := h _ m1
      obtain ⟨b1, b2⟩ := h _ m2
      simp only [List.mem_cons, List.not_mem_nil, or_false] at hz
      rcases hz with rfl | rfl
      · exact ⟨by grind, ((a2.add b2).mul half_sz).mono (by omega)⟩
      · exact ⟨b1, b2.mono (by omega)⟩
  · simp only [List.mem_cons, List.not_mem_nil, or_false] at z
    rcases z with rfl | rfl | rfl
    · exact ⟨by grind, (hL.2.add half_sz).mono (by omega)⟩
    · exact ⟨by grind, (hL.2.add one).mono (by omega)⟩
    · exact ⟨by grind, (hL.2.add seven).mono (by omega)⟩
/-- a curve made of others agrees -/
theorem ag_of {L : List Rat → Prop} {φ : List Rat → Rat} {f : Cur} {us : List Cur} {n m : Nat} (hf : Told f) (hz : SzU f) (hl : f.1.length ≤ 300) (hm : ∀ m ∈ mom f.1, Sz n m) (h20 : 20 ≤ n) (h400 : n ≤ 400) (hul : us.length ≤ 5) (h : ∀ u ∈ us, S20 u)
    (hv : ∀ t, 0 ≤ t → Sz (2 * n + 5) t → L (us.map fun u => vl u t) ∧ vl f t = φ (us.map fun u => vl u t)) : AgOk L φ f us := by
  have all : ∀ u ∈ f :: us, ∀ m ∈ mom u.1, 0 ≤ m ∧ Sz n m := fun u hu m h1 => by
    rcases List.mem_cons.mp hu with z | z
    · rw [z] at h1; exact ⟨hf.crv.nn m h1, hm m h1⟩
    · exact ⟨(h u z).crv.nn m h1, ((h u z).mom m h1).mono h20⟩
  refine ⟨hf, fun u hu => (h u hu).crv, fun u hu => ?_, fun u hu m h1 => (all u hu m h1).2.mono h400, ?_, by omega, fun t ht => ?_⟩
  · rcases List.mem_cons.mp hu with z | z
    · rw [z]; exact ⟨hz, by omega⟩
    · exact ⟨(h u z).szU, by have := (h u z).len; omega⟩
  · have h1 := momsOf_len (us := us) (n := 5) fun u hu => (h u hu).len
    have h2 := Nat.mul_le_mul_right 5 hul
    have : (momsOf (f :: us)).length = f.1.length + (momsOf us).length := by simp [momsOf]
    omega
  · obtain ⟨h0, hs⟩ := pts_sz (by omega) (fun m hm' => momsOf_all all m (mem_once.mp hm')) t ht
    obtain ⟨h1, h2⟩ := hv t h0 hs
    exact ⟨h0, hs.mono (by omega), h1, h2⟩

theorem lt_of {us : List Cur} (hl : us.length ≤ 5) {g : Cur → Rat} {n : Nat} (hn : n ≤ 790) (h : ∀ u ∈ us, Sz n (g u)) : LT (us.map g) := by
  refine ⟨fun q hq => ?_, fun pre suf e => ?_⟩
  · obtain ⟨u, hu, e⟩ := List.mem_map.mp hq
    rw [← e]; exact (h u hu).mono (by omega)
  · have hp : ∀ q ∈ pre, Sz n q := fun q hq => by
      have : q ∈ us.map g := by rw [e]; simp [hq]
      obtain ⟨u, hu, e⟩ := List.mem_map.mp this
      rw [← e]; exact h u hu
    have hpl : pre.length ≤ 5 := by
      have := congrArg List.length e
      simp at this; omega
    refine (total_sz hp).mono ?_
    have := Nat.mul_le_mul_right (n + 1) hpl
    omega
theorem sum_told {us : List Cur} (h : ∀ u ∈ us, S20 u) : Told (summed us) := summed_told fun u hu => (h u hu).crv
theorem sum_cor {us : List Cur} (hl : us.length ≤ 5) (h : ∀ u ∈ us, S20 u) : (∀ k ∈ (summed us).1, Sz 20 k.1 ∧ Sz 900 k.2) ∧ Sz 900 (summed us).2 ∧ (summed us).1.length ≤ 26 := by
  have so := sum_ok hl h
  refine ⟨fun k hk => ?_, so.slp us [] (by simp), ?_⟩
  · have := normC_sub hk
    obtain ⟨m, hm, e⟩ := List.mem_map.mp this
    rw [← e]
    refine ⟨?_, so.val us [] (by simp) m hm⟩
    rcases List.mem_append.mp (mem_once.mp hm) with z | z
    · exact momsOf_all (fun u hu m hm => (h u hu).mom m hm) m z
    · obtain rfl : m = 0 := by simpa using z
      exact zero_sz.mono (by decide)
  · refine Nat.le_trans normC_len ?_
    show (List.map _ _).length ≤ 26
    rw [List.length_map]
    refine Nat.le_trans length_once ?_
    have h1 := momsOf_len (us := us) (n := 5) fun u hu => (h u hu).len
    have h2 := Nat.mul_le_mul_right 5 hl
    simp; omega
theorem sum_ag {us : List Cur} (hl : us.length ≤ 5) (h : ∀ u ∈ us, S20 u) : AgOk LT total (summed us) us := by
  obtain ⟨h1, h2, h3⟩ := sum_cor hl h
  refine ag_of (n := 20) (m := 0) (sum_told h) ⟨fun k hk => ⟨(h1 k hk).1.mono (by decide), (h1 k hk).2.mono (by decide)⟩, h2.mono (by decide)⟩ (by omega) (fun m hm => ?_) (by decide) (by decide) hl h fun t h0 ht => ⟨lt_of hl (n := 170) (by decide) fun u hu => ((h u hu).val ht).1.mono (by decide), summed_val (fun u hu => (h u hu).crv) h0⟩
  obtain ⟨k, hk, e⟩ := List.mem_map.mp hm
  rw [← e]; exact (h1 k hk).1
/-! ### folds -/
/-- where two lines meet -/
theorem line_meet {m mc wc kc mb wb kb : Rat} (hk : kc - kb ≠ 0) : m + ((wb + kb * (m - mb)) - (wc + kc * (m - mc))) / (kc - kb) = mc + ((wb + kb * (mc - mb)) - wc) / (kc - kb) := by
  have e : (wb + kb * (m - mb)) - (wc + kc * (m - mc)) = ((wb + kb * (mc - mb)) - wc) + (mc - m) * (kc - kb) := by grind
  rw [e]
  generalize (wb + kb * (mc - mb)) - wc = A
  generalize kc - kb = D at *
  grind
theorem corner_val {s : Rat} : ∀ {c : List Cor}, Sorted c → ∀ k ∈ c, val c s k.1 = k.2
  | [a], _, k, hk => by
    obtain rfl : k = a := by simpa using hk
    unfold val; grind
  | a :: b :: r, hs, k, hk => by
    rcases List.mem_cons.mp hk with e | e
    · subst e
      simp only [val, if_pos hs.1]; grind
    · have := sorted_nn hs.2 k e
      have hn : ¬ k.1 < b.1 := by grind
      simp only [val, if_neg hn]
      exact corner_val hs.2 k e
/-- a curve folded of cs -/
structure FI (cs : List Cur) (f : Cur) (n : Nat) : Prop where
  told : Told f
  len : f.1.length ≤ n
  pt : ∀ t, 0 ≤ t → ∃ c ∈ cs, vl f t = vl c t ∧ sl f t = sl c t
  mom : ∀ m ∈ mom f.1, Sz 400 m
  slp : ∃ c ∈ cs, f.2 = c.2
theorem FI.szU {cs : List Cur} {f : Cur} {n : Nat} (h : FI cs f n) (hc : ∀ c ∈ cs, S20 c) : SzU f := by
  refine ⟨fun k hk => ?_, ?_⟩
  · have hm := h.mom k.1 (List.mem_map.mpr ⟨k, hk, rfl⟩)
    have h0 := h.told.crv.nn k.1 (List.mem_map.mpr ⟨k, hk, rfl⟩)
    have hv : vl f k.1 = k.2 := by
      exact corner_val h.told.crv.sorted k hk
    obtain ⟨c, h1, h2, _⟩ := h.pt k.1 h0
    refine ⟨hm.mono (by decide), ?_⟩
    rw [← hv, h2]
    exact ((hc c h1).val hm).1.mono (by decide)
  · obtain ⟨c, h1, h2⟩ := h.slp
    rw [h2]; exact (hc c h1).slp.mono (by decide)

theorem FI.fin {cs : List Cur} {f : Cur} {n : Nat} (h : FI cs f n) (hn : n ≤ 300) (hc : ∀ c ∈ cs, S20 c) : Fin f :=
  ⟨h.told.crv, h.szU hc, by have := h.len; omega, fun t h0 ht => by
    obtain ⟨c, h1, h2, h3⟩ := h.pt t h0
    rw [h2, h3]
    exact ⟨((hc c h1).val ht).1.mono (by decide), ((hc c h1).val ht).2.mono (by decide)⟩, h.mom⟩
/-- a piece of a small curve -/
theorem S20.piece {u : Cur} (h : S20 u) (t : Rat) : ∃ m w, Sz 20 m ∧ Sz 20 w ∧ vl u t = w + sl u t * (t - m) := by
  obtain ⟨a, k, h1, _, h3, h4⟩ := place_val u.2 t u.1 h.ne
  obtain ⟨z1, z2⟩ := h.cor a (List.mem_of_getElem? h1)
  refine ⟨a.1, a.2, z1, z2, ?_⟩
  show Qk.val u.1 u.2 t = a.2 + Qk.slp u.1 u.2 t * (t - a.1)
  rw [h3, h4]
theorem FI.mts {cs : List Cur} {f b : Cur} {n : Nat} (h : FI cs f n) (hc : ∀ c ∈ cs, S20 c) (hb : S20 b) : ∀ x ∈ meets f b (joint0 f b), Sz 400 x := fun x hx => by
  obtain ⟨m, hm, e⟩ := mem_meets hx
  have h0 := joint0_nn h.told.crv hb.crv m hm
  obtain ⟨c, h1, h2, h3⟩ := h.pt m h0
  unfold meet at e
  split at e
  · cases e
  · rename_i hpos
    have e := Option.some.inj e
    have hk : sl f m - sl b m ≠ 0 := fun z => hpos (by rw [z]; grind)
    obtain ⟨mc, wc, z1, z2, ec⟩ := (hc c h1).piece m
    obtain ⟨mb, wb, z3, z4, eb⟩ := hb.piece m
    have kc : Sz 82 (sl f m) := by rw [h3]; exact ((hc c h1).val (T := 1) zero_sz).2 |> fun _ => ((val_sz (n := 20) (T := (Nat.log2 (m.num.natAbs + m.den) + 1)) (hc c h1).slp ⟨Nat.lt_of_le_of_lt (Nat.le_add_right _ _) Nat.lt_log2_self, Nat.lt_of_le_of_lt (Nat.le_add_left _ _) Nat.lt_log2_self⟩ (hc c h1).ne (hc c h1).cor).2)
    have kb : Sz 82 (sl b m) := (val_sz (n := 20) (T := (Nat.log2 (m.num.natAbs + m.den) + 1)) hb.slp ⟨Nat.lt_of_le_of_lt (Nat.le_add_right _ _) Nat.lt_log2_self, Nat.lt_of_le_of_lt (Nat.le_add_left _ _) Nat.lt_log2_self⟩ hb.ne hb.cor).2
    rw [← h3] at ec
    rw [h2, ec, eb, line_meet hk] at e
    rw [← e]
    exact (z1.add (((z4.add (kb.mul (z1.sub z3))).sub z2).div (kc.sub kb))).mono (by decide)
theorem meets_len (a b : Cur) : ∀ l : List Rat, (Qk.meets a b l).length ≤ l.length
  | [] => Nat.le_refl _
  | [m] => by
    show (meet a b m).toList.length ≤ 1
    cases meet a b m <;> simp
  | m :: m' :: r => by
    have ih := meets_len a b (m' :: r)
    show (_ ++ Qk.meets a b (m' :: r)).length ≤ _
    rw [List.length_append]
    have : (match meet a b m with
      | some x => if x < m' then [x] else []
      | none => ([] : List Rat)).length ≤ 1 := by
      split
      · split <;> simp
      · simp
    refine Nat.le_trans (Nat.add_le_add this ih) ?_
    simp only [List.length_cons]; omega
theorem joint_len {a b : Cur} : (joint a b).length ≤ 2 * (a.1.length + b.1.length) := by
  have h1 : (joint0 a b).length ≤ a.1.length + b.1.length := by
    refine Nat.le_trans length_once ?_
    simp
  refine Nat.le_trans length_once ?_
  have := meets_len a b (joint0 a b)
  rw [List.length_append]; omega

theorem rsel_mem (w : Bool) (x y : Rat) : rsel w x y = x ∨ rsel w x y = y := by
  unfold rsel
  split <;> split <;> simp
theorem joint_mom {a b : Cur} {n : Nat} {cs : List Cur} (ha : FI cs a n) (hb : S20 b) (hc : ∀ c ∈ cs, S20 c) : ∀ m ∈ joint a b, Sz 400 m := fun m hm => by
  rcases mem_joint.mp hm with z | z
  · rcases List.mem_append.mp (mem_once.mp z) with z | z
    · exact ha.mom m z
    · exact (hb.mom m z).mono (by decide)
  · exact ha.mts hc hb m z
theorem chosen_cor {a b : Cur} {w : Bool} : ∀ m ∈ mom (chosen a b w).1, m ∈ joint a b := fun m hm => by
  obtain ⟨k, hk, e⟩ := List.mem_map.mp hm
  have := normC_sub hk
  obtain ⟨t, ht, e2⟩ := List.mem_map.mp this
  rw [← e, ← e2]; exact ht
theorem chosen_len {a b : Cur} {w : Bool} : (chosen a b w).1.length ≤ (joint a b).length := by
  refine Nat.le_trans normC_len ?_
  show (List.map _ _).length ≤ _
  rw [List.length_map]; exact Nat.le_refl _
theorem FI.step {cs : List Cur} {f b : Cur} {n : Nat} {w : Bool} (h : FI cs f n) (hc : ∀ c ∈ cs, S20 c) (hb : b ∈ cs) : FI cs (chosen f b w) (2 * (n + 5)) := by
  have sb := hc b hb
  refine ⟨chosen_told h.told.crv sb.crv, ?_, fun t h0 => ?_, fun m hm => joint_mom h sb hc m (chosen_cor m hm), ?_⟩
  · have h1 := chosen_len (a := f) (b := b) (w := w)
    have h2 := joint_len (a := f) (b := b)
    have h3 := h.len
    have h4 := sb.len
    omega
  · obtain ⟨e1, e2⟩ := chosen_fits (w := w) h.told.crv sb.crv h0
    rw [e1, e2]
    rcases pick_cases f b w t with e | e
    · rw [e]; exact h.pt t h0
    · rw [e]; exact ⟨b, hb, rfl, rfl⟩
  · rw [chosen_slope h.told.crv sb.crv]
    rcases rsel_mem w f.2 b.2 with e | e
    · rw [e]; exact h.slp
    · rw [e]; exact ⟨b, hb, rfl⟩
theorem FI.one {cs : List Cur} {c : Cur} (hc : c ∈ cs) (h : S20 c) : FI cs c 5 := ⟨h.told, h.len, fun t _ => ⟨c, hc, rfl, rfl⟩, fun m hm => (h.mom m hm).mono (by decide), c, hc, rfl⟩
/-- a curve with itself -/
theorem joint_self {c : Cur} (h : S20 c) : joint c c = mom c.1 := by
  have hm : Qk.meets c c (joint0 c c) = [] := by
    rw [List.eq_nil_iff_forall_not_mem]
    intro x hx
    obtain ⟨m, _, e⟩ := mem_meets hx
    unfold meet at e
    rw [if_pos (by grind)] at e
    cases e
  unfold joint
  rw [hm, List.append_nil]
  have sm : SortedM (mom c.1) := by
    have : ∀ {l : List Cor}, Sorted l → SortedM (mom l) := by
      intro l
      induction l with
      | nil => intro _; exact .nil
      | cons a l ih =>
        intro hs
        refine List.pairwise_cons.mpr ⟨fun y hy => ?_, ih ?_⟩
        · obtain ⟨k, hk, e⟩ := List.mem_map.mp hy
          rw [← e]
          cases l with
          | nil => cases hk
          | cons b l =>
            have h1 := hs.1
            have h2 := sorted_nn hs.2 k hk
            grind
        · cases l with
          | nil => trivial
          | cons b l => exact hs.2
    exact this h.crv.sorted
  exact (once_eq sm fun x => by rw [joint0, mem_once, List.mem_append]; exact ⟨.inl, fun z => z.elim id id⟩).symm
theorem FI.self {cs : List Cur} {c : Cur} {w : Bool} (hc : c ∈ cs) (hs : ∀ c ∈ cs, S20 c) : FI cs (chosen c c w) 5 := by
  have h := FI.step (w := w) (FI.one hc (hs c hc)) hs hc
  refine ⟨h.told, ?_, h.pt, h.mom, h.slp⟩
  have h1 := chosen_len (a := c) (b := c) (w := w)
  rw [joint_self (hs c hc), List.length_map] at h1
  exact Nat.le_trans h1 (hs c hc).len
/-- the corners behind k of them -/
def bnd : Nat → Nat
  | 0 => 5
  | 1 => 5
  | k + 2 => 2 * (bnd (k + 1) + 5)
theorem fold_inv {w : Bool} {c : Cur} {r : List Cur} (h : ∀ x ∈ c :: r, S20 x) (pre suf : List Cur) (e : c :: r = pre ++ suf) : FI (c :: r) (pre.foldl (fun f y => chosen f y w) c) (bnd pre.length) := by
  have key : ∀ k, k ≤ (c :: r).length → FI (c :: r) (((c :: r).take k).foldl (fun f y => chosen f y w) c) (bnd k) := by
    intro k
    induction k with
    | zero => intro _; exact FI.one (List.mem_cons_self ..) (h c (List.mem_cons_self ..))
    | succ k ih =>
      intro hk
      have hf := ih (by omega)
      have hlt : k < (c :: r).length := by omega
      rw [List.take_succ, List.getElem?_eq_getElem hlt, Option.toList_some, List.foldl_append]
      have hx : (c :: r)[k] ∈ c :: r := List.getElem_mem hlt
      cases k with
      | zero => exact FI.self (List.mem_cons_self ..) h
      | succ k => exact FI.step hf h hx
  have h1 := key pre.length (by rw [e, List.length_append]; omega)
  rw [e, List.take_left] at h1
  rw [e]; exact h1
theorem bnd_le : ∀ k, k ≤ 5 → bnd k ≤ 230
  | 0, _ => by decide
  | 1, _ => by decide
  | 2, _ => by decide
  | 3, _ => by decide
  | 4, _ => by decide
  | 5, _ => by decide
  | k + 6, h => by omega
theorem fold_ok {w : Bool} {us : List Cur} (hl : us.length ≤ 5) (h : ∀ u ∈ us, S20 u) (hn : us ≠ []) : FoldOk w us ∧ FI us (foldC w us) 230 := by
  obtain ⟨c, r, rfl⟩ := List.exists_cons_of_ne_nil hn
  have inv := fold_inv (w := w) h
  have bl : ∀ pre suf, c :: r = pre ++ suf → pre.length ≤ 5 := fun pre suf e => by
    have := congrArg List.length e
    rw [List.length_append] at this; omega
  refine ⟨⟨fun x hx => (h x hx).fin, fun pre suf e => (inv pre suf e).fin (by have := bnd_le _ (bl pre suf e); omega) h, fun pre x suf e => ?_, fun pre x suf e => ?_⟩, ?_⟩
  · have h1 := (inv pre (x :: suf) e).len
    have h2 := bnd_le _ (bl pre _ e)
    have h3 := (h x (by rw [e]; simp)).len
    show (List.foldl _ c pre).1.length + _ ≤ _
    omega
  · exact (inv pre (x :: suf) e).mts h (h x (by rw [e]; simp))
  · rw [foldC_eq hn]
    have h1 := inv (c :: r) [] (by simp)
    exact ⟨h1.told, Nat.le_trans h1.len (bnd_le _ hl), h1.pt, h1.mom, h1.slp⟩
theorem fold_ag {w : Bool} {us : List Cur} (hl : us.length ≤ 5) (h : ∀ u ∈ us, S20 u) (hn : us ≠ []) : AgOk LS (selL w) (foldC w us) us := by
  have hf := (fold_ok (w := w) hl h hn).2
  refine ag_of (n := 400) (m := 0) hf.told (hf.szU h) (by have := hf.len; omega) hf.mom (by decide) (by decide) hl h fun t h0 ht => ⟨⟨by simpa using hn, fun q hq => ?_⟩, (foldC_ok (fun c hc => (h c hc).told) hn).2.2 t h0⟩
  obtain ⟨u, hu, e⟩ := List.mem_map.mp hq
  rw [← e]; exact ((h u hu).val ht).1.mono (by decide)
/-! ### told by repr -/
theorem encF_shw {q : Rat} (h : Sz 1000 q) : Shw 2 1 (encF q) := by
  refine shw_tup (n := 0) (k := 0) (ds := [.int q.num, .int q.den]) fun d hd => ?_
  simp only [List.mem_cons, List.not_mem_nil, or_false] at hd
  rcases hd with rfl | rfl
  · exact shw_int h.1
  · exact shw_int (by rw [Int.natAbs_natCast]; exact h.2)
theorem mku_shw {u : Cur} {n : Nat} (h : SzU u) (hl : u.1.length ≤ n) (hn : 1 ≤ n) : Shw (2 * (7 * n + 1)) 4 (.tuple [.list (mku u).1, (mku u).2]) := by
  have hk : ∀ d ∈ u.1.map encK, Shw 6 2 d := fun d hd => by
    obtain ⟨k, h1, e⟩ := List.mem_map.mp hd
    rw [← e]
    refine shw_tup (n := 2) (k := 1) (ds := [encF k.1, encF k.2]) fun d hd => ?_
    simp only [List.mem_cons, List.not_mem_nil, or_false] at hd
    rcases hd with rfl | rfl
    · exact encF_shw (h.1 k h1).1
    · exact encF_shw (h.1 k h1).2
  have hc : Shw (7 * n) 3 (.list (u.1.map encK)) := (shw_seq (m := n) (n := 6) (k := 2) rfl hk (by rw [List.length_map]; exact hl)).mono (by omega) (Nat.le_refl _)
  refine shw_tup (n := 7 * n) (k := 3) (ds := [.list (u.1.map encK), encF u.2]) fun d hd => ?_
  simp only [List.mem_cons, List.not_mem_nil, or_false] at hd
  rcases hd with rfl | rfl
  · exact hc
  · exact (encF_shw h.2).mono (by omega) (by decide)
theorem mkD_shw {us : List Cur} {n : Nat} (h : ∀ u ∈ us, SzU u ∧ u.1.length ≤ n) (hn : 1 ≤ n) (hl : us.length ≤ 3) (hb : 3 * (2 * (7 * n + 1) + 1) ≤ 16000) : Shw 16000 10 (mkD (us.map mku)) := by
  refine (shw_seq (m := 3) (n := 2 * (7 * n + 1)) (k := 4) (ds := (us.map mku).map fun u => .tuple [.list u.1, u.2]) rfl (fun d hd => ?_) (by simpa using hl)).mono hb (by decide)
  obtain ⟨m, hm, e⟩ := List.mem_map.mp hd
  obtain ⟨u, hu, e2⟩ := List.mem_map.mp hm
  subst e e2
  exact mku_shw (h u hu).1 (h u hu).2 hn
theorem lists_ok (us : List Cur) (hl : us.length ≤ 5) (hd : ∀ u ∈ us, Dr 5 u) : ListsOk us := by
  have h : ∀ u ∈ us, S20 u := fun u hu => (hd u hu).s20
  obtain ⟨c1, c2, c3⟩ := sum_cor hl h
  have sz : SzU (summed us) := ⟨fun k hk => ⟨(c1 k hk).1.mono (by decide), (c1 k hk).2.mono (by decide)⟩, c2.mono (by decide)⟩
  refine ⟨fun u hu => (h u hu).told, sum_ok hl h, lt_of hl (n := 20) (by decide) fun u hu => (h u hu).slp, sum_ag hl h, fun hn w => ⟨(fold_ok hl h hn).1, fold_ag hl h hn⟩, fun hn => ⟨by simpa using hn, fun q hq => ?_⟩, fun hn => ?_⟩
  · obtain ⟨u, hu, e⟩ := List.mem_map.mp hq
    rw [← e]; exact (h u hu).slp.mono (by decide)
  · have f := fun w => (fold_ok (w := w) hl h hn).2
    have all : ∀ v ∈ [foldC true us, foldC false us, summed us], SzU v ∧ v.1.length ≤ 230 := fun v hv => by
      simp only [List.mem_cons, List.not_mem_nil, or_false] at hv
      rcases hv with rfl | rfl | rfl
      · exact ⟨(f true).szU h, (f true).len⟩
      · exact ⟨(f false).szU h, (f false).len⟩
      · exact ⟨sz, by omega⟩
    exact ⟨mkD_shw (us := [foldC true us, foldC false us, summed us]) all (by decide) (by simp) (by decide), fun v hv => by have := (all v hv).2; omega⟩

theorem times_ok {u : Cur} {f : Rat} (h : S20 u) (hf : Sz 20 f) : TimesOk u f :=
  ⟨h.ne, h.crv.sorted, fun k hk => ⟨(h.cor k hk).1.mono (by decide), (h.cor k hk).2.mono (by decide), (hf.mul (h.cor k hk).2).mono (by decide)⟩, h.slp.mono (by decide), (hf.mul h.slp).mono (by decide), hf.mono (by decide), by have := h.len; omega⟩
theorem times_cor {u : Cur} {f : Rat} (h : S20 u) (hf : Sz 20 f) : (∀ k ∈ (timesC f u).1, Sz 20 k.1 ∧ Sz 40 k.2) ∧ Sz 40 (timesC f u).2 ∧ (timesC f u).1.length ≤ 5 := by
  refine ⟨fun k hk => ?_, hf.mul h.slp, Nat.le_trans normC_len (by unfold timesL; rw [List.length_map]; exact h.len)⟩
  obtain ⟨k', h1, h2⟩ := List.mem_map.mp (normC_sub hk)
  rw [← h2]
  exact ⟨(h.cor k' h1).1, hf.mul (h.cor k' h1).2⟩
theorem pair_ok (u v : Cur) (du : Dr 5 u) (dv : Dr 5 v) (f : Rat) (hf : Sz 20 f) : PairOk u v f := by
  have hu := du.s20
  have hv := dv.s20
  have neg : Sz 20 (-1 : Rat) := ⟨by decide, by decide⟩
  have both : ∀ {a b : Cur}, S20 a → S20 b → ∀ x ∈ [a, b], S20 x := fun ha hb x hx => by
    simp only [List.mem_cons, List.not_mem_nil, or_false] at hx
    rcases hx with rfl | rfl
    · exact ha
    · exact hb
  obtain ⟨t1, t2, t3⟩ := times_cor hu hf
  have tz : SzU (timesC f u) := ⟨fun k hk => ⟨(t1 k hk).1.mono (by decide), (t1 k hk).2.mono (by decide)⟩, t2.mono (by decide)⟩
  obtain ⟨a1, a2, a3⟩ := sum_cor (us := [u, timesC (-1) v]) (by simp) (both hu hv.times)
  have az : SzU (apart u v) := ⟨fun k hk => ⟨(a1 k hk).1.mono (by decide), (a1 k hk).2.mono (by decide)⟩, a2.mono (by decide)⟩
  have momS : ∀ {c : Cur} {n : Nat}, (∀ k ∈ c.1, Sz 20 k.1 ∧ Sz n k.2) → ∀ m ∈ mom c.1, Sz 20 m := fun h m hm => by
    obtain ⟨k, hk, e⟩ := List.mem_map.mp hm
    rw [← e]; exact (h k hk).1
  refine ⟨hu.told, hf, ⟨hu.slp, hv.slp⟩, times_ok hu hf, ?_, times_ok hv neg, sum_ok (by simp) (both hu hv.times), ?_, times_ok hu neg, sum_ok (by simp) (both hu hu.times), given_enc hu.crv (fun k hk => ⟨(hu.cor k hk).1.mono (by decide), (hu.cor k hk).2.mono (by decide)⟩) (hu.slp.mono (by decide)) (by have := hu.len; omega), ?_, by omega, ?_⟩
  · refine ag_of (n := 20) (m := 0) (timesC_told f hu.crv) tz (by omega) (momS t1) (by decide) (by decide) (by simp) (fun x hx => by
      have e : x = u := by simpa using hx
      rw [e]; exact hu) fun t h0 ht => ⟨⟨_, rfl, ((hu.val ht).1).mono (by decide)⟩, timesC_val f hu.crv⟩
  · refine ag_of (n := 20) (m := 0) (apart_told hu.crv hv.crv) az (Nat.le_trans a3 (by decide)) (momS a1) (by decide) (by decide) (by simp) (both hu hv) fun t h0 ht => ⟨⟨_, _, rfl, ((hu.val ht).1).mono (by decide), ((hv.val ht).1).mono (by decide)⟩, apart_val hu.crv hv.crv h0⟩
  · exact mkD_shw (us := [timesC f u, apart u v]) (n := 26) (fun x hx => by
      simp only [List.mem_cons, List.not_mem_nil, or_false] at hx
      rcases hx with rfl | rfl
      · exact ⟨tz, by omega⟩
      · exact ⟨az, a3⟩) (by decide) (by simp) (by decide)
  · exact Nat.le_trans a3 (by decide)
end Q6
end
section
set_option maxHeartbeats 4000000
/-! The end for a law whose promise asks for no guards around (DefG); tables of code objects. -/
namespace Q6
open PySem PySem.Spec PyProof.Rows L2 LamX RZ Qk
/-- the frozen script -/
abbrev scrO (us : List Value) : Obj := { cls := .type "list", data := .seq us.toArray }
abbrev emptO : Obj := { cls := .none, data := .fields #[] }
open Classical in
/-- what is told of the heap ahead of the law's call -/
noncomputable def startH (K : PySem.W.Frag) (cs : List (Addr × Addr)) (a : Addr) (us : List Value) (ns : List Int) : Hp := fun b =>
  if ∃ p ∈ cs, p.2 = b then some (.tbl #[]) else if b = a ∧ K.lookup a = none then some (.frz (scrO us) (.lst (ns.map V.int))) else none
section
variable {K : PySem.W.Frag} {cs : List (Addr × Addr)} {a b : Addr} {us : List Value} {ns : List Int} {u : HO}
theorem startH_tab {p : Addr × Addr} (h : p ∈ cs) : startH K cs a us ns p.2 = some (.tbl #[]) := by
  unfold startH
  rw [if_pos ⟨p, h, rfl⟩]
theorem startH_cases (h : startH K cs a us ns b = some u) : (u = .tbl #[] ∧ ∃ p ∈ cs, p.2 = b) ∨ (u = .frz (scrO us) (.lst (ns.map V.int)) ∧ b = a ∧ K.lookup a = none) := by
  unfold startH at h
  split at h
  · rename_i q
    exact .inl ⟨(Option.some.inj h).symm, q⟩
  · split at h
    · rename_i q
      exact .inr ⟨(Option.some.inj h).symm, q⟩
    · cases h
theorem startH_scr (h1 : ¬ ∃ p ∈ cs, p.2 = a) (h2 : K.lookup a = none) : startH K cs a us ns a = some (.frz (scrO us) (.lst (ns.map V.int))) := by
  unfold startH
  rw [if_neg h1, if_pos ⟨rfl, h2⟩]
end
theorem law_end {P : Program} {w : World} {K : PySem.W.Frag} {mg mb : Str → Option Value} {k : Nat} {a : Addr} {cs : List (Addr × Addr)} {x y : Str} {sp : Sp} {st : Shared} {us : List Value} {ns : List Int}
    (inK : K.In st.heap) (gl : st.heap.Ns mainGlobals mg) (bu : st.heap.Ns builtinsNs mb) (bo : ∀ z : Str, z ≠ "__name__" → mb z = bootBuiltins z) (nl : st.heap.NoLimit) (ng : st.gens = #[])
    (t1 : ∀ p ∈ cs, st.heap.get? p.2 = some emptO) (t2 : ∀ p ∈ cs, K.lookup p.2 = none) (t3 : ∀ p ∈ cs, PySem.W.CodeHd st.heap p.1 p.2)
    (mo : ∃ (bm : Addr) (ob : Obj), mg "__builtins__" = some (.ref bm) ∧ bm ≠ builtinsNs ∧ st.heap.get? bm = some ob ∧ ob.cls = .type "module" ∧ ob.dict = some builtinsNs ∧ ob.data = .plain)
    (la : st.heap.get? a = some (scrO us)) (li : IntsAre us ns) (ll : ns.length ≤ sizeLine) (rm : Room k callerA)
    (D : ∀ base : Heap, K.In base → base.Ns mainGlobals mg → (∀ p ∈ cs, TabB base mg p.1 p.2) → DefG P w K mg base k x [y] sp)
    (say : ∀ H : Hp, (∀ p ∈ cs, H p.2 = some (.tbl #[])) → SqL K H a (ns.map V.int) → sp [.ref a] H (fun v _ => v = .bl true) fun _ _ _ => False) :
    codeAny (model P w) callerA (.call (.ref (He.ga K x)) ⟨[.ref a], []⟩) (fun r s' => r = .ok (.ret (.bool true)) ∧ OldK st.heap s'.heap ∧ s'.os = st.os ∧ AllBare s'.gens) st := by
  have rel := vals_ints li
  have len := li.length
  have aNo : ¬ ∃ p ∈ cs, p.2 = a := fun ⟨p, hp, e⟩ => by
    have z := t1 p hp
    rw [e, la] at z
    cases congrArg Obj.data (Option.some.inj z)
  generalize hH : startH K cs a us ns = H
  have tabH : ∀ p ∈ cs, H p.2 = some (.tbl #[]) := fun p hp => by rw [← hH]; exact startH_tab hp
  have two : ∀ {b : Addr} {u : HO}, H b = some u → (u = .tbl #[] ∧ ∃ p ∈ cs, p.2 = b) ∨ (u = .frz (scrO us) (.lst (ns.map V.int)) ∧ b = a ∧ K.lookup a = none) := fun {b u} h => startH_cases (by rw [hH]; exact h)
  have scrH : SqL K H a (ns.map V.int) := by
    cases q : K.lookup a with
    | none => exact .inl (.inr ⟨scrO us, by rw [← hH]; exact startH_scr aNo q⟩)
    | some o =>
      have e := inK a o q
      rw [la] at e
      cases e
      exact .inr ⟨_, us.toArray, _, q, rfl, rfl, rfl, by rw [List.size_toArray, len]; exact ll, by simpa using rel⟩
  -- what lies in the heap and is neither a list nor an empty table stays told by the base
  have seen : ∀ {b : Addr} {o : Obj}, st.heap.get? b = some o → (∀ xs n, o.data ≠ .seq xs n) → o.data ≠ .fields #[] → (hidT st.heap H).get? b = some o := fun {b o} e q1 q2 => by
    refine hidT_get e ?_
    cases q : H b with
    | none => rfl
    | some u =>
      rcases two q with ⟨_, p, hp, rfl⟩ | ⟨_, rfl, _⟩
      · rw [t1 p hp] at e
        cases e
        exact absurd rfl q2
      · rw [la] at e
        cases e
        exact absurd rfl (q1 _ _)
  have ns1 : ∀ {b : Addr} {m : Str → Option Value}, st.heap.Ns b m → (hidT st.heap H).Ns b m := fun {b m} ⟨o, es, ep, e, d, r⟩ => ⟨o, es, ep, seen e (by rw [d]; intro _ _ z; cases z) (by rw [d]; intro z; cases z), d, r⟩
  have bK : K.In (hidT st.heap H) := fun b o e => by
    refine hidT_get (inK b o e) ?_
    cases q : H b with
    | none => rfl
    | some u =>
      rcases two q with ⟨_, p, hp, rfl⟩ | ⟨_, rfl, z⟩
      · rw [t2 p hp] at e; cases e
      · rw [z] at e; cases e
  have md : L2.Mod K mg (hidT st.heap H) := by
    obtain ⟨ml, l1, l2⟩ := nl
    exact ⟨bK, ns1 gl, ⟨mb, ns1 bu, bo⟩, ⟨ml, ns1 l1, l2⟩⟩
  have tb : ∀ p ∈ cs, TabB (hidT st.heap H) mg p.1 p.2 := fun p hp => by
    have e1 := t1 p hp
    refine ⟨?_, ?_, fun z => ?_⟩
    · obtain ⟨o, q1, q2, q3, q4, q5, q6, q7, q8, h1, h2, h3, h4, h5, h6, h7, h8, h9, h10⟩ := t3 p hp
      refine ⟨o, q1, q2, q3, q4, q5, q6, q7, q8, seen h1 ?_ ?_, h2, h3, h4, h5, h6, h7, h8, h9, h10⟩
      · rw [h3]; intro _ _ z; cases z
      · rw [h3]; intro z; cases z; simp at h4
    · obtain ⟨bm, ob, m1, m2, m3, m4, m5, m6⟩ := mo
      have n1 : bm ≠ mainGlobals := fun z => by
        obtain ⟨o, es, ep, e, hd, _⟩ := gl
        rw [← z, m3] at e
        cases e
        rw [m6] at hd
        cases hd
      have n2 : bm ≠ p.2 := fun z => by
        rw [z, e1] at m3
        cases m3
        cases m6
      exact ⟨bm, ob, m1, m2, n1, n2, seen m3 (by rw [m6]; intro _ _ z; cases z) (by rw [m6]; intro z; cases z), m4, m5, m6⟩
    · obtain ⟨o, es, ep, e, hd, _⟩ := gl
      rw [z, e1] at e
      cases e
      cases hd
  have hok : HOk P w H st.heap := fun b u h => by
    rcases two h with ⟨rfl, p, hp, rfl⟩ | ⟨rfl, rfl, _⟩
    · exact t1 p hp
    · exact ⟨la, by rw [List.length_map]; exact ll, us, _, rel, la⟩
  have env : Env0 P w K mg (hidT st.heap H) callerA [] st H := ⟨rfl, md, fun b o e => of_hidT e, Nat.le_of_eq (hidT_size _ _), trivial, (fun b hb => by cases hb), hok, .of_eq ng⟩
  have G := D _ bK (ns1 gl) tb
  obtain ⟨fd, go, bnd⟩ := G.ex
  have bd : BindsTo st fd ⟨[.ref a], []⟩ (([y] : List Str).zip [Value.ref a]) := bnd st [.ref a] inK rfl
  refine codeAny_mono (go callerA [] st H _ [.ref a] [.ref a] _ _ rfl rm env bd (.cons rfl .nil) (say H tabH scrH)) fun r s' h => ?_
  match r, h with
  | .error e, h => exact (show False from h).elim
  | .ok .next, h => exact (show False from h).elim
  | .ok .brk, h => exact (show False from h).elim
  | .ok .cont, h => exact (show False from h).elim
  | .ok (.ret r), ⟨v, H', os, bare, un, hok', rv, e⟩ =>
    have e : v = .bl true := e
    subst e
    cases (show r = Value.bool true from rv)
    -- the tables have grown, all else stays
    have grown : ∀ p ∈ cs, ∃ more : Array Value, s'.heap.get? p.2 = some { cls := .none, data := .fields more } := fun p hp => by
      obtain ⟨more, z⟩ := un.tbls p.2 #[] (tabH p hp)
      exact ⟨_, hok' p.2 _ z⟩
    have kept : ∀ b o, (¬ ∃ p ∈ cs, p.2 = b) → st.heap.get? b = some o → s'.heap.get? b = some o := fun b o hn e => by
      cases q : H b with
      | none => exact un.keep b o e q (by intro z; cases z) (by simp)
      | some u =>
        rcases two q with ⟨_, z⟩ | ⟨rfl, rfl, _⟩
        · exact absurd z hn
        · have z1 := (hok' b _ (un.frzs b _ _ q)).1
          rw [la] at e
          cases e
          exact z1
    refine ⟨rfl, ⟨fun b o e => ?_, fun b o e => ?_⟩, os, bare⟩
    all_goals rcases Classical.em (∃ p ∈ cs, p.2 = b) with ⟨p, hp, rfl⟩ | hn
    · obtain ⟨more, z⟩ := grown p hp
      have e1 := t1 p hp
      rw [e1] at e
      cases e
      exact .inr (.inl ⟨((t3 p hp).tab e1).isCodeTable, rfl, #[], more, rfl, by rw [Array.empty_append]; exact z⟩)
    · exact .inl (kept b o hn e)
    · obtain ⟨more, z⟩ := grown p hp
      exact ⟨_, z⟩
    · exact ⟨o, kept b o hn e⟩
end Q6
end
section
set_option maxHeartbeats 4000000
set_option exponentiation.threshold 2000000
namespace Q6
open PySem PySem.Spec PyProof.Rows L2 LamX RZ Qk
/-! what the head says, by names -/
theorem inj_of_nodup {α β : Type} {f : α → β} : ∀ {l : List α}, (l.map f).Nodup → ∀ {a b : α}, a ∈ l → b ∈ l → f a = f b → a = b
  | [], _, _, _, h, _, _ => by cases h
  | c :: l, hn, a, b, ha, hb, e => by
    rw [List.map_cons, List.nodup_cons] at hn
    obtain ⟨n1, n2⟩ := hn
    rcases List.mem_cons.mp ha with ha' | ha' <;> rcases List.mem_cons.mp hb with hb' | hb'
    · rw [ha', hb']
    · exact absurd (List.mem_map.mpr ⟨b, hb', by rw [← e, ha']⟩) n1
    · exact absurd (List.mem_map.mpr ⟨a, ha', by rw [e, hb']⟩) n1
    · exact inj_of_nodup n2 ha' hb' e
/-- an own class of errors -/
theorem ownB_ok {K : PySem.W.Frag} {C : Addr} (h : ownB K C = true) : ∃ nm q N bs bm sn sub ab col dd k0 k1 k2 k3 k5, K.lookup C = some (excClassObj nm q C N bs bm true sn sub ab col dd k0 k1 k2 k3 k5 "ValueError.__new__") ∧ PySem.HandSPX.refsVE bm = true := by
  unfold ownB at h
  split at h
  · rename_i t dd cd sl lk
    split at h
    · rename_i C' bm k0 k1 k2 k3 n k5 hm hs
      simp only [Bool.and_eq_true, decide_eq_true_eq, Bool.not_eq_true'] at h
      obtain ⟨rfl, rfl, rfl, h4, h5, h6⟩ := h
      obtain ⟨nm, bs, mro, N, q, hd, sn, sub, ab, col, del⟩ := cd
      simp only at hm h4 h5
      subst hm h4 h5
      obtain ⟨l⟩ := sl
      simp only at hs
      subst hs
      exact ⟨nm, q, N, bs, bm, sn, sub, ab, col, dd, k0, k1, k2, k3, k5, lk, h6⟩
    · cases h
  · cases h
abbrev TTof (K : PySem.W.Frag) : List (Addr × Str) := tfs.map fun p => ((He.cT K p).2, p.1 ++ ".<locals>." ++ "<lambda>")
section
variable {w : World} {h base : Heap} {K : PySem.W.Frag} {mg : Str → Option Value}
theorem at_of (c : He.SaysX faAll2 fnAll [] tfs exB w h K) (X : K.In h) (G : h.Ns mainGlobals mg) {x : Str} {i : Nat} (a b : Nat) (h1 : fnAll[a]? = some (dfn x i)) (h2 : faAll2[b]? = some (.glo x)) : At K mg x i := by
  obtain ⟨fd, F⟩ := c.t.d.def_ a h1
  exact ⟨⟨fd, F⟩, He.glo_ok X G (c.t.d.fact b h2)⟩
theorem atL_of (c : He.SaysX faAll2 fnAll [] tfs exB w h K) (X : K.In h) (G : h.Ns mainGlobals mg) (TB : ∀ p ∈ tfs.map (He.cT K), TabB base mg p.1 p.2) (nd : (tfs.map fun p => (He.cT K p).2).Nodup) {x : Str} {i : Nat} (a b : Nat) (h1 : fnAll[a]? = some (dfn x i)) (h2 : faAll2[b]? = some (.glo x)) (hm : (x, none) ∈ tfs) :
    AtL K mg base (TTof K) x i := by
  have A := at_of c X G a b h1 h2
  obtain ⟨fd, F⟩ := A.ex
  obtain ⟨oc, od, dV, kV, doc, pm, an, cdv, ct, osl, e, lk, hcd, hd, hk⟩ := F.ex
  obtain ⟨cc, ec⟩ := He.codeIn_ref hcd
  have efd : fd.code = .ref cc := by rw [e]; exact ec
  have e1 : He.codeOf K (x, none) = cc := He.codeOf_eq lk efd
  have T1 := TB (He.cT K (x, none)) (List.mem_map.mpr ⟨_, hm, rfl⟩)
  refine ⟨⟨fd, ⟨⟨oc, od, dV, kV, doc, pm, an, cdv, ct, osl, e, lk, hcd, hd, hk⟩, F.kp⟩, cc, (He.cT K (x, none)).2, efd, ?_, List.mem_map.mpr ⟨(x, none), hm, rfl⟩, fun p hp z => ?_⟩, A.gm⟩
  · have e2 : (He.cT K (x, none)).1 = cc := e1
    rw [e2] at T1
    exact T1
  · obtain ⟨q, hq, rfl⟩ := List.mem_map.mp hp
    have := inj_of_nodup nd hq hm z
    rw [this]
theorem xc_of (c : He.SaysX faAll2 fnAll [] tfs exB w h K) (X : K.In h) (G : h.Ns mainGlobals mg) {x f : Str} {i : Nat} (hx : xcB K x f = true) (a b : Nat) (h1 : fnAll[a]? = some (dmt x (x ++ ".__init__") i)) (h2 : faAll2[b]? = some (.glo x)) : Xc K mg x f i ∧ XfC K (He.ga K x) := by
  obtain ⟨x1, hx⟩ := He.ba hx
  obtain ⟨x2, hx⟩ := He.ba hx
  obtain ⟨x3, hx⟩ := He.ba hx
  obtain ⟨x4, hx⟩ := He.ba hx
  obtain ⟨x5, hx⟩ := He.ba hx
  obtain ⟨x6, hx⟩ := He.ba hx
  obtain ⟨x7, hx⟩ := He.ba hx
  obtain ⟨x8, x9⟩ := He.ba hx
  obtain ⟨fd, F⟩ := c.t.d.def_ a h1
  exact ⟨⟨⟨ownB_ok x1, of_decide_eq_true x2, of_decide_eq_true x3, of_decide_eq_true x4, x5⟩, He.glo_ok X G (c.t.d.fact b h2), of_decide_eq_true x6, He.ma K (He.ga K x) "__init__", fd, of_decide_eq_true x8, of_decide_eq_true x9, F⟩, xfB_ok x7⟩
theorem gcd_of (X : K.In h) (G : h.Ns mainGlobals mg) (hx : gcdB K = true) : mg "gcd" = some (.builtin "math.gcd") := by
  unfold gcdB at hx
  split at hx
  · rename_i b e
    rw [PySem.W.mg_of X G e, of_decide_eq_true hx]
  · cases hx
theorem odd_of (hx : oddB K = true) : OddOk K := by
  unfold oddB at hx
  split at hx
  · rename_i o e
    exact ⟨o, e, of_decide_eq_true hx⟩
  · cases hx
theorem txt_of (c : He.SaysX faAll2 fnAll [] tfs exB w h K) (X : K.In h) (G : h.Ns mainGlobals mg) : Txt mg := ⟨gcd_of X G (He.ba c.more).1,
  He.free_ok X G (c.t.d.fact 6 (f := .free "isinstance") rfl),
  He.free_ok X G (c.t.d.fact 7 (f := .free "list") rfl),
  He.free_ok X G (c.t.d.fact 8 (f := .free "tuple") rfl),
  He.free_ok X G (c.t.d.fact 9 (f := .free "int") rfl),
  He.free_ok X G (c.t.d.fact 10 (f := .free "bool") rfl),
  He.free_ok X G (c.t.d.fact 11 (f := .free "len") rfl),
  He.free_ok X G (c.t.d.fact 12 (f := .free "all") rfl),
  He.free_ok X G (c.t.d.fact 13 (f := .free "zip") rfl),
  He.free_ok X G (c.t.d.fact 14 (f := .free "enumerate") rfl),
  He.free_ok X G (c.t.d.fact 15 (f := .free "sorted") rfl),
  He.free_ok X G (c.t.d.fact 16 (f := .free "abs") rfl),
  He.free_ok X G (c.t.d.fact 17 (f := .free "dict") rfl),
  He.free_ok X G (c.t.d.fact 18 (f := .free "max") rfl),
  He.free_ok X G (c.t.d.fact 19 (f := .free "repr") rfl),
  He.free_ok X G (c.t.d.fact 20 (f := .free "range") rfl)⟩
end
end Q6
end
section
set_option maxHeartbeats 4000000
set_option exponentiation.threshold 2000000
namespace Q6
open PySem PySem.Spec PyProof.Rows L2 LamX RZ Qk
theorem Def.up {P : Program} {w : World} {K : PySem.W.Frag} {mg : Str → Option Value} {base : Heap} {CX : CXT} {k k' : Nat} {x : Str} {ps : List Str} {sp : Sp} (D : Def P w K mg base CX k x ps sp) (l : k ≤ k') : Def P w K mg base CX k' x ps sp := by
  obtain ⟨fd, F, b, q⟩ := D.ex
  exact ⟨⟨fd, F.mono l, b, q⟩, D.gm, D.kp⟩
/-- all promises, bottom-up -/
theorem whole {P : Program} {w : World} {h base : Heap} {K : PySem.W.Frag} {mg : Str → Option Value} (c : He.SaysX faAll2 fnAll [] tfs exB w h K) (X : K.In h) (G : h.Ns mainGlobals mg) (TB : ∀ p ∈ tfs.map (He.cT K), TabB base mg p.1 p.2) :
    DefG P w K mg base 14 "law" P_law (spLaw (TTof K) K) := by
  have T : Txt mg := txt_of c X G
  obtain ⟨_, m1⟩ := He.ba c.more
  obtain ⟨m2, m3⟩ := He.ba m1
  obtain ⟨m4, m5⟩ := He.ba m3
  obtain ⟨m6, m7⟩ := He.ba m5
  obtain ⟨m8, m9⟩ := He.ba m7
  have O : OddOk K := odd_of m2
  have nd := of_decide_eq_true m4
  obtain ⟨X_BadCurve, xf1⟩ := xc_of (i := 40) c X G m6 81 103 rfl rfl
  obtain ⟨X_BadCurves, xf2⟩ := xc_of (i := 41) c X G m8 82 104 rfl rfl
  obtain ⟨X_BadFraction, xf3⟩ := xc_of (i := 3) c X G m9 80 102 rfl rfl
  have EF : ExF K := ⟨He.exm_ok (c.t.d.fact 0 (f := .exm "BadCurve" "BadCurve" true) rfl), He.exm_ok (c.t.d.fact 1 (f := .exm "BadCurves" "BadCurve" false) rfl), He.exm_ok (c.t.d.fact 2 (f := .exm "BadCurves" "BadCurves" true) rfl), He.exm_ok (c.t.d.fact 3 (f := .exm "BadFraction" "BadCurve" false) rfl), He.exm_ok (c.t.d.fact 4 (f := .exm "BadFraction" "BadCurves" false) rfl), He.exm_ok (c.t.d.fact 5 (f := .exm "BadFraction" "BadFraction" true) rfl), ⟨xf1, X_BadCurve.nof⟩, ⟨xf2, X_BadCurves.nof⟩, ⟨xf3, X_BadFraction.nof⟩⟩
  have G_is_list : At K mg "is_list" 5 := at_of c X G 0 21 rfl rfl
  have G_is_whole : At K mg "is_whole" 6 := at_of c X G 1 22 rfl rfl
  have G_is_positive : At K mg "is_positive" 7 := at_of c X G 2 23 rfl rfl
  have G_lowest : At K mg "lowest" 8 := at_of c X G 3 24 rfl rfl
  have G_is_fraction : At K mg "is_fraction" 9 := at_of c X G 4 25 rfl rfl
  have G_told : At K mg "told" 10 := at_of c X G 5 26 rfl rfl
  have G_checked_fraction : At K mg "checked_fraction" 11 := at_of c X G 6 27 rfl rfl
  have G_plus : At K mg "plus" 12 := at_of c X G 7 28 rfl rfl
  have G_less : At K mg "less" 13 := at_of c X G 8 29 rfl rfl
  have G_times : At K mg "times" 14 := at_of c X G 9 30 rfl rfl
  have G_parted : At K mg "parted" 15 := at_of c X G 10 31 rfl rfl
  have G_is_below : At K mg "is_below" 16 := at_of c X G 11 32 rfl rfl
  have G_in_order : AtL K mg base (TTof K) "in_order" 17 := atL_of c X G TB nd 12 33 rfl rfl (by decide)
  have G_is_corner : At K mg "is_corner" 19 := at_of c X G 13 34 rfl rfl
  have G_is_curve_thing : At K mg "is_curve_thing" 20 := at_of c X G 14 35 rfl rfl
  have G_steepness : At K mg "steepness" 21 := at_of c X G 15 36 rfl rfl
  have G_slopes_of : At K mg "slopes_of" 22 := at_of c X G 16 37 rfl rfl
  have G_normal : At K mg "normal" 23 := at_of c X G 17 38 rfl rfl
  have G_as_told : At K mg "as_told" 24 := at_of c X G 18 39 rfl rfl
  have G_place_at : At K mg "place_at" 25 := at_of c X G 19 40 rfl rfl
  have G_slope_from : At K mg "slope_from" 26 := at_of c X G 20 41 rfl rfl
  have G_worth_of : At K mg "worth_of" 27 := at_of c X G 21 42 rfl rfl
  have G_each_once : At K mg "each_once" 28 := at_of c X G 22 43 rfl rfl
  have G_moments_of : At K mg "moments_of" 29 := at_of c X G 23 44 rfl rfl
  have G_meeting : At K mg "meeting" 30 := at_of c X G 24 45 rfl rfl
  have G_joint_moments : At K mg "joint_moments" 31 := at_of c X G 25 46 rfl rfl
  have G_is_lower : At K mg "is_lower" 32 := at_of c X G 26 47 rfl rfl
  have G_chosen : At K mg "chosen" 33 := at_of c X G 27 48 rfl rfl
  have G_least_two : At K mg "least_two" 34 := at_of c X G 28 49 rfl rfl
  have G_greatest_two : At K mg "greatest_two" 35 := at_of c X G 29 50 rfl rfl
  have G_summed : At K mg "summed" 36 := at_of c X G 30 51 rfl rfl
  have G_many_times : At K mg "many_times" 37 := at_of c X G 31 52 rfl rfl
  have G_apart_by : At K mg "apart_by" 38 := at_of c X G 32 53 rfl rfl
  have G_checked_curve : At K mg "checked_curve" 43 := at_of c X G 33 54 rfl rfl
  have G_checked_curves : At K mg "checked_curves" 45 := at_of c X G 34 55 rfl rfl
  have G_added : At K mg "added" 46 := at_of c X G 35 56 rfl rfl
  have G_least_of : At K mg "least_of" 47 := at_of c X G 36 57 rfl rfl
  have G_greatest_of : At K mg "greatest_of" 48 := at_of c X G 37 58 rfl rfl
  have G_scaled : At K mg "scaled" 49 := at_of c X G 38 59 rfl rfl
  have G_difference : At K mg "difference" 50 := at_of c X G 39 60 rfl rfl
  have G_l_stream : At K mg "_law_stream" 52 := at_of c X G 40 61 rfl rfl
  have G_l_draw : At K mg "_law_draw" 53 := at_of c X G 41 62 rfl rfl
  have G_l_pick : At K mg "_law_pick" 54 := at_of c X G 42 63 rfl rfl
  have G_l_same : At K mg "_law_same" 55 := at_of c X G 43 64 rfl rfl
  have G_l_loose : At K mg "_law_loose" 56 := at_of c X G 44 65 rfl rfl
  have G_l_common : At K mg "_law_common" 57 := at_of c X G 45 66 rfl rfl
  have G_l_low : At K mg "_law_low" 58 := at_of c X G 46 67 rfl rfl
  have G_l_plus : At K mg "_law_plus" 59 := at_of c X G 47 68 rfl rfl
  have G_l_less : At K mg "_law_less" 60 := at_of c X G 48 69 rfl rfl
  have G_l_times : At K mg "_law_times" 61 := at_of c X G 49 70 rfl rfl
  have G_l_by : At K mg "_law_by" 62 := at_of c X G 50 71 rfl rfl
  have G_l_is_below : At K mg "_law_is_below" 63 := at_of c X G 51 72 rfl rfl
  have G_l_least : At K mg "_law_least" 64 := at_of c X G 52 73 rfl rfl
  have G_l_greatest : At K mg "_law_greatest" 65 := at_of c X G 53 74 rfl rfl
  have G_l_total : At K mg "_law_total" 66 := at_of c X G 54 75 rfl rfl
  have G_l_raw : At K mg "_law_raw" 67 := at_of c X G 55 76 rfl rfl
  have G_l_unlike : At K mg "_law_unlike" 68 := at_of c X G 56 77 rfl rfl
  have G_l_by_size : AtL K mg base (TTof K) "_law_by_size" 69 := atL_of c X G TB nd 57 78 rfl rfl (by decide)
  have G_l_is_told : At K mg "_law_is_told" 70 := at_of c X G 58 79 rfl rfl
  have G_l_middle : At K mg "_law_middle" 71 := at_of c X G 59 80 rfl rfl
  have G_l_c_at : At K mg "_law_c_at" 72 := at_of c X G 60 81 rfl rfl
  have G_l_c_slopes : At K mg "_law_c_slopes" 73 := at_of c X G 61 82 rfl rfl
  have G_l_c_slope : At K mg "_law_c_slope" 74 := at_of c X G 62 83 rfl rfl
  have G_l_c_worth : At K mg "_law_c_worth" 75 := at_of c X G 63 84 rfl rfl
  have G_l_c_plain : At K mg "_law_c_plain" 76 := at_of c X G 64 85 rfl rfl
  have G_l_c_is_told : At K mg "_law_c_is_told" 77 := at_of c X G 65 86 rfl rfl
  have G_l_c_drawn : At K mg "_law_c_drawn" 78 := at_of c X G 66 87 rfl rfl
  have G_l_c_near : At K mg "_law_c_near" 79 := at_of c X G 67 88 rfl rfl
  have G_l_c_more : At K mg "_law_c_more" 80 := at_of c X G 68 89 rfl rfl
  have G_l_c_raw : At K mg "_law_c_raw" 81 := at_of c X G 69 90 rfl rfl
  have G_l_c_passed : At K mg "_law_c_passed" 82 := at_of c X G 70 91 rfl rfl
  have G_l_c_moments : At K mg "_law_c_moments" 83 := at_of c X G 71 92 rfl rfl
  have G_l_c_points : At K mg "_law_c_points" 84 := at_of c X G 72 93 rfl rfl
  have G_l_odd : At K mg "_law_odd" 85 := at_of c X G 73 94 rfl rfl
  have G_l_tried : At K mg "_law_tried" 86 := at_of c X G 74 95 rfl rfl
  have G_l_agrees : At K mg "_law_agrees" 87 := at_of c X G 75 96 rfl rfl
  have G_l_lists_right : At K mg "_law_lists_right" 88 := at_of c X G 76 97 rfl rfl
  have G_l_pair_right : AtL K mg base (TTof K) "_law_pair_right" 89 := atL_of c X G TB nd 77 98 rfl rfl (by decide)
  have G_l_refused_right : AtL K mg base (TTof K) "_law_refused_right" 90 := atL_of c X G TB nd 78 99 rfl rfl (by decide)
  have G_law : At K mg "law" 91 := at_of c X G 79 100 rfl rfl
  have D_is_list : Def P w K mg base CX0 1 "is_list" P_is_list (spD (TTof K) K F_is_list 1) := ok_is_list T O G_is_list
  have D_is_whole : Def P w K mg base CX0 1 "is_whole" P_is_whole (spD (TTof K) K F_is_whole 1) := ok_is_whole T O G_is_whole
  have D_is_positive : Def P w K mg base CX0 2 "is_positive" P_is_positive (spD (TTof K) K F_is_positive 1) := ok_is_positive D_is_whole G_is_positive
  have D_lowest : Def P w K mg base CX0 1 "lowest" P_lowest (spD (TTof K) K F_lowest 2) := ok_lowest T G_lowest
  have D_is_fraction : Def P w K mg base CX0 3 "is_fraction" P_is_fraction (spD (TTof K) K F_is_fraction 1) := ok_is_fraction T O D_is_list D_is_whole D_is_positive G_is_fraction
  have D_told : Def P w K mg base CX0 2 "told" P_told (spD (TTof K) K F_told 1) := ok_told T O D_lowest G_told
  have D_plus : Def P w K mg base CX0 2 "plus" P_plus (spD (TTof K) K F_plus 2) := ok_plus T O D_lowest G_plus
  have D_less : Def P w K mg base CX0 2 "less" P_less (spD (TTof K) K F_less 2) := ok_less T O D_lowest G_less
  have D_times : Def P w K mg base CX0 2 "times" P_times (spD (TTof K) K F_times 2) := ok_times T O D_lowest G_times
  have D_parted : Def P w K mg base CX0 2 "parted" P_parted (spD (TTof K) K F_parted 2) := ok_parted T O D_lowest G_parted
  have D_is_below : Def P w K mg base CX0 1 "is_below" P_is_below (spD (TTof K) K F_is_below 2) := ok_is_below T O G_is_below
  have D_steepness : Def P w K mg base CX0 3 "steepness" P_steepness (spD (TTof K) K F_steepness 2) := ok_steepness T O D_parted D_less G_steepness
  have D_slopes_of : Def P w K mg base CX0 4 "slopes_of" P_slopes_of (spD (TTof K) K F_slopes_of 1) := ok_slopes_of T O D_steepness G_slopes_of
  have D_normal : Def P w K mg base CX0 5 "normal" P_normal (spR (TTof K) K 0 F_normal 2) := ok_normal T O D_slopes_of G_normal
  have D_place_at : Def P w K mg base CX0 2 "place_at" P_place_at (spD (TTof K) K F_place_at 2) := ok_place_at T O D_is_below G_place_at
  have D_slope_from : Def P w K mg base CX0 5 "slope_from" P_slope_from (spD (TTof K) K F_slope_from 2) := ok_slope_from T O D_slopes_of D_place_at G_slope_from
  have D_worth_of : Def P w K mg base CX0 5 "worth_of" P_worth_of (spD (TTof K) K F_worth_of 2) := ok_worth_of T O D_place_at D_plus D_times D_less D_slopes_of G_worth_of
  have D_is_corner : Def P w K mg base CX0 4 "is_corner" P_is_corner (spD (TTof K) K F_is_corner 1) := ok_is_corner T O D_is_list D_is_fraction G_is_corner
  have D_is_curve_thing : Def P w K mg base CX0 5 "is_curve_thing" P_is_curve_thing (spD (TTof K) K F_is_curve_thing 1) := ok_is_curve_thing T O D_is_list D_is_fraction D_is_below D_is_corner G_is_curve_thing
  have D_as_told : Def P w K mg base CX0 6 "as_told" P_as_told (spR (TTof K) K 0 F_as_told 1) := ok_as_told T O D_normal D_told G_as_told
  have D_many_times : Def P w K mg base CX0 6 "many_times" P_many_times (spR (TTof K) K 0 F_many_times 2) := ok_many_times T O D_normal D_times G_many_times
  have D_in_order : Def P w K mg base CX0 2 "in_order" P_in_order (spD (TTof K) K F_in_order 1) := ok_in_order T O G_in_order
  have D_each_once : Def P w K mg base CX0 3 "each_once" P_each_once (spD (TTof K) K F_each_once 1) := ok_each_once T O D_in_order G_each_once
  have D_moments_of : Def P w K mg base CX0 4 "moments_of" P_moments_of (spD (TTof K) K F_moments_of 1) := ok_moments_of T O D_each_once G_moments_of
  have D_meeting : Def P w K mg base CX0 6 "meeting" P_meeting (spD (TTof K) K F_meeting 3) := ok_meeting T O D_less D_plus D_worth_of D_slope_from D_parted G_meeting
  have D_joint_moments : Def P w K mg base CX0 7 "joint_moments" P_joint_moments (spD (TTof K) K F_joint_moments 2) := ok_joint_moments T O D_moments_of D_each_once D_meeting D_is_below G_joint_moments
  have D_is_lower : Def P w K mg base CX0 6 "is_lower" P_is_lower (spD (TTof K) K F_is_lower 3) := ok_is_lower T O D_worth_of D_is_below D_slope_from G_is_lower
  have D_chosen : Def P w K mg base CX0 8 "chosen" P_chosen (spR (TTof K) K 0 F_chosen 3) := ok_chosen T O D_joint_moments D_normal D_slope_from D_is_lower D_worth_of G_chosen
  have D_least_two : Def P w K mg base CX0 9 "least_two" P_least_two (spR (TTof K) K 0 F_least_two 2) := ok_least_two T O D_chosen G_least_two
  have D_greatest_two : Def P w K mg base CX0 9 "greatest_two" P_greatest_two (spR (TTof K) K 0 F_greatest_two 2) := ok_greatest_two T O D_chosen G_greatest_two
  have D_summed : Def P w K mg base CX0 6 "summed" P_summed (spR (TTof K) K 0 F_summed 1) := ok_summed T O D_moments_of D_normal D_plus D_worth_of G_summed
  have D_apart_by : Def P w K mg base CX0 7 "apart_by" P_apart_by (spR (TTof K) K 0 F_apart_by 2) := ok_apart_by T O D_summed D_many_times G_apart_by
  have D_checked_fraction : Def P w K mg base (L2.CX P w) 4 "checked_fraction" P_checked_fraction (spE (TTof K) K 0 F_checked_fraction 1) := ok_checked_fraction T O D_told D_is_fraction X_BadFraction G_checked_fraction
  have D_checked_curve : Def P w K mg base (L2.CX P w) 7 "checked_curve" P_checked_curve (spE (TTof K) K 0 F_checked_curve 1) := ok_checked_curve T O D_as_told D_is_curve_thing X_BadCurve G_checked_curve
  have D_checked_curves : Def P w K mg base (L2.CX P w) 7 "checked_curves" P_checked_curves (spE (TTof K) K 0 F_checked_curves 2) := ok_checked_curves T O D_as_told D_is_list D_is_curve_thing X_BadCurves G_checked_curves
  have D_added : Def P w K mg base (L2.CX P w) 8 "added" P_added (spE (TTof K) K 0 F_added 1) := ok_added T O D_summed D_checked_curves G_added
  have D_least_of : Def P w K mg base (L2.CX P w) 10 "least_of" P_least_of (spE (TTof K) K 0 F_least_of 1) := ok_least_of T O D_checked_curves D_least_two G_least_of
  have D_greatest_of : Def P w K mg base (L2.CX P w) 10 "greatest_of" P_greatest_of (spE (TTof K) K 0 F_greatest_of 1) := ok_greatest_of T O D_checked_curves D_greatest_two G_greatest_of
  have D_scaled : Def P w K mg base (L2.CX P w) 8 "scaled" P_scaled (spE (TTof K) K 0 F_scaled 2) := ok_scaled T O D_checked_curve D_many_times D_checked_fraction G_scaled
  have D_difference : Def P w K mg base (L2.CX P w) 8 "difference" P_difference (spE (TTof K) K 0 F_difference 2) := ok_difference T O D_checked_curve D_apart_by G_difference
  have D_l_common : Def P w K mg base CX0 1 "_law_common" P_l_common (spD (TTof K) K F_l_common 2) := ok_l_common T O G_l_common
  have D_l_low : Def P w K mg base CX0 2 "_law_low" P_l_low (spD (TTof K) K F_l_low 2) := ok_l_low T O D_l_common G_l_low
  have D_l_plus : Def P w K mg base CX0 3 "_law_plus" P_l_plus (spD (TTof K) K F_l_plus 2) := ok_l_plus T O D_l_low G_l_plus
  have D_l_less : Def P w K mg base CX0 3 "_law_less" P_l_less (spD (TTof K) K F_l_less 2) := ok_l_less T O D_l_low G_l_less
  have D_l_times : Def P w K mg base CX0 3 "_law_times" P_l_times (spD (TTof K) K F_l_times 2) := ok_l_times T O D_l_low G_l_times
  have D_l_by : Def P w K mg base CX0 3 "_law_by" P_l_by (spD (TTof K) K F_l_by 2) := ok_l_by T O D_l_low G_l_by
  have D_l_is_below : Def P w K mg base CX0 1 "_law_is_below" P_l_is_below (spD (TTof K) K F_l_is_below 2) := ok_l_is_below T O G_l_is_below
  have D_l_least : Def P w K mg base CX0 2 "_law_least" P_l_least (spD (TTof K) K F_l_least 1) := ok_l_least T O D_l_is_below G_l_least
  have D_l_greatest : Def P w K mg base CX0 2 "_law_greatest" P_l_greatest (spD (TTof K) K F_l_greatest 1) := ok_l_greatest T O D_l_is_below G_l_greatest
  have D_l_total : Def P w K mg base CX0 4 "_law_total" P_l_total (spD (TTof K) K F_l_total 1) := ok_l_total T O D_l_plus G_l_total
  have D_l_unlike : Def P w K mg base CX0 1 "_law_unlike" P_l_unlike (spD (TTof K) K F_l_unlike 1) := ok_l_unlike T O G_l_unlike
  have D_l_by_size : Def P w K mg base CX0 2 "_law_by_size" P_l_by_size (spD (TTof K) K F_l_by_size 1) := ok_l_by_size T O D_l_unlike D_l_common G_l_by_size
  have D_l_middle : Def P w K mg base CX0 4 "_law_middle" P_l_middle (spD (TTof K) K F_l_middle 2) := ok_l_middle T O D_l_times D_l_plus G_l_middle
  have D_l_c_at : Def P w K mg base CX0 2 "_law_c_at" P_l_c_at (spD (TTof K) K F_l_c_at 2) := ok_l_c_at T O D_l_is_below G_l_c_at
  have D_l_c_slopes : Def P w K mg base CX0 4 "_law_c_slopes" P_l_c_slopes (spD (TTof K) K F_l_c_slopes 1) := ok_l_c_slopes T O D_l_by D_l_less G_l_c_slopes
  have D_l_c_slope : Def P w K mg base CX0 4 "_law_c_slope" P_l_c_slope (spD (TTof K) K F_l_c_slope 2) := ok_l_c_slope T O D_l_c_at D_l_by D_l_less G_l_c_slope
  have D_l_c_worth : Def P w K mg base CX0 5 "_law_c_worth" P_l_c_worth (spD (TTof K) K F_l_c_worth 2) := ok_l_c_worth T O D_l_plus D_l_c_at D_l_times D_l_c_slope D_l_less G_l_c_worth
  have D_l_c_plain : Def P w K mg base CX0 5 "_law_c_plain" P_l_c_plain (spD (TTof K) K F_l_c_plain 2) := ok_l_c_plain T O D_l_c_slopes G_l_c_plain
  have D_l_is_told : Def P w K mg base CX0 2 "_law_is_told" P_l_is_told (spD (TTof K) K F_l_is_told 1) := ok_l_is_told T O D_l_common G_l_is_told
  have D_l_c_is_told : Def P w K mg base CX0 6 "_law_c_is_told" P_l_c_is_told (spD (TTof K) K F_l_c_is_told 1) := ok_l_c_is_told T O D_l_is_told D_l_c_plain D_l_is_below G_l_c_is_told
  have D_l_c_moments : Def P w K mg base CX0 3 "_law_c_moments" P_l_c_moments (spD (TTof K) K F_l_c_moments 1) := ok_l_c_moments T O D_l_by_size G_l_c_moments
  have D_l_c_points : Def P w K mg base CX0 5 "_law_c_points" P_l_c_points (spD (TTof K) K F_l_c_points 1) := ok_l_c_points T O D_l_c_moments D_l_plus D_l_middle G_l_c_points
  have D_l_draw : Def P w K mg base CX0 1 "_law_draw" P_l_draw (spR (TTof K) K 1 F_l_draw 2) := ok_l_draw T O G_l_draw
  have D_l_pick : Def P w K mg base CX0 2 "_law_pick" P_l_pick (spR (TTof K) K 1 F_l_pick 2) := ok_l_pick T O D_l_draw G_l_pick
  have no0 : ∀ (vs : List V) (H : Hp) (Q : VK) (E : XK), ¬ (fun _ _ _ _ => False : Sp) vs H Q E := fun _ _ _ _ z => z
  have Z1 := ok_l_loose0 (P := P) (w := w) (base := base) G_l_loose (j := 0) no0
  have Lo0 : Def P w K mg base CX0 2 "_law_loose" P_l_loose (spR (TTof K) K (lc 0) (F_l_loose 0) 2) := ok_l_loose T O (by decide) D_l_draw Z1 (.inl rfl) G_l_loose
  have Lo1 : Def P w K mg base CX0 3 "_law_loose" P_l_loose (spR (TTof K) K (lc 1) (F_l_loose 1) 2) := ok_l_loose T O (by decide) D_l_draw Lo0 (.inr ⟨0, rfl, rfl⟩) G_l_loose
  have Lo2 : Def P w K mg base CX0 4 "_law_loose" P_l_loose (spR (TTof K) K (lc 2) (F_l_loose 2) 2) := ok_l_loose T O (by decide) D_l_draw Lo1 (.inr ⟨1, rfl, rfl⟩) G_l_loose
  have Lo3 : Def P w K mg base CX0 5 "_law_loose" P_l_loose (spR (TTof K) K (lc 3) (F_l_loose 3) 2) := ok_l_loose T O (by decide) D_l_draw Lo2 (.inr ⟨2, rfl, rfl⟩) G_l_loose
  have Lo4 : Def P w K mg base CX0 6 "_law_loose" P_l_loose (spR (TTof K) K (lc 4) (F_l_loose 4) 2) := ok_l_loose T O (by decide) D_l_draw Lo3 (.inr ⟨3, rfl, rfl⟩) G_l_loose
  have D_l_raw : Def P w K mg base CX0 9 "_law_raw" P_l_raw (spR (TTof K) K 2 F_l_raw 2) := ok_l_raw T O D_l_pick (Lo1.up (by decide)) G_l_raw
  have D_l_c_raw : Def P w K mg base CX0 10 "_law_c_raw" P_l_c_raw (spR (TTof K) K 10000 F_l_c_raw 2) := ok_l_c_raw T O (Lo4.up (by decide)) D_l_raw G_l_c_raw
  have D_l_c_drawn : Def P w K mg base CX0 6 "_law_c_drawn" P_l_c_drawn (spR (TTof K) K 40 F_l_c_drawn 2) := ok_l_c_drawn T O D_l_c_plain D_l_pick D_l_draw D_l_low D_l_plus G_l_c_drawn
  have D_l_c_near : Def P w K mg base CX0 6 "_law_c_near" P_l_c_near (spR (TTof K) K 10 F_l_c_near 2) := ok_l_c_near T O D_l_c_plain D_l_draw D_l_low D_l_plus D_l_pick G_l_c_near
  have D_l_c_more : Def P w K mg base CX0 6 "_law_c_more" P_l_c_more (spR (TTof K) K 100 F_l_c_more 2) := ok_l_c_more T O D_l_draw D_l_less D_l_pick D_l_plus D_l_times D_l_middle D_l_c_worth G_l_c_more
  have D_l_c_passed : Def P w K mg base CX0 11 "_law_c_passed" P_l_c_passed (spR (TTof K) K 10100 F_l_c_passed 2) := ok_l_c_passed T O D_l_c_raw D_l_c_more G_l_c_passed
  have D_l_stream : Def P w K mg base CX0 1 "_law_stream" P_l_stream (spR (TTof K) K 0 F_l_stream 1) := ok_l_stream T O G_l_stream
  have D_l_odd : Def P w K mg base CX0 3 "_law_odd" P_l_odd (spR (TTof K) K 1 F_l_odd 1) := ok_l_odd T O D_l_pick G_l_odd
  have D_l_agrees_total : Def P w K mg base CX0 7 "_law_agrees" P_l_agrees (spAg (TTof K) K "_law_total" LT total) := ok_l_agrees T O D_l_c_points D_l_c_is_told D_l_c_worth (D_l_total.up (by decide)) (fun l h => ⟨l, rfl, h.1, h.2, rfl⟩) G_l_agrees
  have D_l_agrees_least : Def P w K mg base CX0 7 "_law_agrees" P_l_agrees (spAg (TTof K) K "_law_least" LS (selL true)) := ok_l_agrees T O D_l_c_points D_l_c_is_told D_l_c_worth (D_l_least.up (by decide)) (fun l h => ⟨l, rfl, h.1, h.2, rfl⟩) G_l_agrees
  have D_l_agrees_greatest : Def P w K mg base CX0 7 "_law_agrees" P_l_agrees (spAg (TTof K) K "_law_greatest" LS (selL false)) := ok_l_agrees T O D_l_c_points D_l_c_is_told D_l_c_worth (D_l_greatest.up (by decide)) (fun l h => ⟨l, rfl, h.1, h.2, rfl⟩) G_l_agrees
  have Y1 := ok_l_same0 (P := P) (w := w) (base := base) G_l_same (j := 0) no0
  have Sa0 : Def P w K mg base CX0 2 "_law_same" P_l_same (spR (TTof K) K 0 (F_l_same 0) 2) := ok_l_same T O (by decide) Y1 (.inl rfl) G_l_same
  have Sa1 : Def P w K mg base CX0 3 "_law_same" P_l_same (spR (TTof K) K 0 (F_l_same 1) 2) := ok_l_same T O (by decide) Sa0 (.inr ⟨0, rfl, rfl⟩) G_l_same
  have Sa2 : Def P w K mg base CX0 4 "_law_same" P_l_same (spR (TTof K) K 0 (F_l_same 2) 2) := ok_l_same T O (by decide) Sa1 (.inr ⟨1, rfl, rfl⟩) G_l_same
  have Sa3 : Def P w K mg base CX0 5 "_law_same" P_l_same (spR (TTof K) K 0 (F_l_same 3) 2) := ok_l_same T O (by decide) Sa2 (.inr ⟨2, rfl, rfl⟩) G_l_same
  have Sa4 : Def P w K mg base CX0 6 "_law_same" P_l_same (spR (TTof K) K 0 (F_l_same 4) 2) := ok_l_same T O (by decide) Sa3 (.inr ⟨3, rfl, rfl⟩) G_l_same
  have Sa5 : Def P w K mg base CX0 7 "_law_same" P_l_same (spR (TTof K) K 0 (F_l_same 5) 2) := ok_l_same T O (by decide) Sa4 (.inr ⟨4, rfl, rfl⟩) G_l_same
  have Sa6 : Def P w K mg base CX0 8 "_law_same" P_l_same (spR (TTof K) K 0 (F_l_same 6) 2) := ok_l_same T O (by decide) Sa5 (.inr ⟨5, rfl, rfl⟩) G_l_same
  have D_l_same := Sa6
  have D_l_lists_right : DefG P w K mg base 11 "_law_lists_right" P_l_lists_right (spD (TTof K) K F_l_lists_right 2) := ok_l_lists_right T O D_l_agrees_total D_l_agrees_least D_l_agrees_greatest D_l_greatest D_l_least D_l_total D_l_same D_least_of D_greatest_of D_added G_least_of G_greatest_of G_added G_l_lists_right
  have D_checked_curveX : Def P w K mg base (L2.CX P w) 7 "checked_curve" P_checked_curve (spX (TTof K) K 1) := ok_checked_curveX T O D_as_told D_is_curve_thing X_BadCurve G_checked_curve
  have D_differenceX : Def P w K mg base (L2.CX P w) 8 "difference" P_difference (spX (TTof K) K 2) := ok_differenceX T O D_checked_curveX D_apart_by G_difference
  have D_l_refused_right : Def P w K mg base CX0 13 "_law_refused_right" P_l_refused_right (spR (TTof K) K 3 F_l_refused_right 3) := ok_l_refused_right T O EF X_BadCurve.gm X_BadCurves.gm X_BadFraction.gm D_added D_least_of D_greatest_of D_scaled D_difference D_differenceX D_l_same D_l_odd D_l_pick D_l_draw G_l_tried G_l_refused_right
  have D_l_pair_right : DefG P w K mg base 12 "_law_pair_right" P_l_pair_right (spR (TTof K) K 20300 F_l_pair_right 3) := ok_l_pair_right T O D_l_low D_l_pick D_l_raw D_l_c_passed D_scaled D_difference D_l_times D_l_less D_l_draw D_l_c_points D_l_c_is_told D_l_c_worth G_l_agrees G_scaled G_difference G_l_pair_right
  have D_l_stream2 : Def P w K mg base CX0 1 "_law_stream" P_l_stream (spStream K) := ok_l_stream2 T O G_l_stream
  exact ok_law T O lists_ok pair_ok D_l_stream2 D_l_c_drawn D_l_c_passed D_l_pair_right D_l_refused_right D_l_draw D_l_pick D_l_lists_right D_l_c_near G_law
end Q6
end
section
set_option maxHeartbeats 4000000
/-! The law holds. -/
namespace Q6
open PySem PySem.Spec PyProof.Rows L2 LamX RZ Qk
/-- the law's call, over what the head leaves -/
theorem law_walk {q : Program} {loose : List Str} {XP : (Str → Option Value) → Heap → Prop} {d : DefRec} (hdn : d.name = ("law" : Str)) (hdf : d.params.defaults = []) :
    PySem.W.WalkO q loose XP hk.says R.toRowW d [] (fun f vs => PySem.call f vs) := by
  refine Att.attach_callB (l := PySem.Challenge.rw_quickbythen_k06_whole_made_of_curves) (n := 63) rfl hdf fun w s₀ st mg mb fa o pm cd doc a us ns G Y ho hd hcd hmg hobj hints hlen hbits hg => ?_
  obtain ⟨K, KX, c⟩ := Y
  have z := He.glo_ok KX G.T.g (c.t.d.fact 100 (f := .glo "law") rfl)
  rw [hdn, z] at hmg
  cases hmg
  refine law_end (cs := tfs.map (He.cT K)) (y := "_law_script") KX G.T.g G.T.b G.T.builtins G.T.nolimit hg ?_ ?_ ?_ G.T.bmain hobj hints (Nat.le_trans hlen (by decide)) ⟨rfl, by decide, by decide⟩ (fun base bK bG TB => whole c KX G.T.g TB) fun H hT hS => ⟨a, ns, rfl, hlen, hS, ?_, fun _ => rfl⟩
  · intro p hp
    obtain ⟨q, hq, rfl⟩ := List.mem_map.mp hp
    exact c.empty q hq
  · intro p hp
    obtain ⟨q, hq, rfl⟩ := List.mem_map.mp hp
    exact c.out q hq
  · intro p hp
    obtain ⟨q, hq, rfl⟩ := List.mem_map.mp hp
    exact PySem.W.codeHd_of_K KX (c.hd q hq)
  · intro p hp
    obtain ⟨q, hq, rfl⟩ := List.mem_map.mp hp
    exact .nil (hT _ (List.mem_map.mpr ⟨q, hq, rfl⟩))
end Q6
open PySem PySem.W PySem.Calls PyProof.Rows
theorem PySem.Challenge.cw_quickbythen_k06_whole_made_of_curves_holds : PySem.Challenge.rw_quickbythen_k06_whole_made_of_curves.Holds := by
  w_on; o_law
  refine HandSHeadRun.head_imp (r := Q6.R) (q := view Q6.R.prog [0, 91]) (H := Q6.hk) (ob := Q6.ob) (M := 20000) (loose := Q6.loose) (d := HandSHeadRun.topDef Q6.R.prog 91) (kwd := []) Q6.ob_eq Q6.run
    (by kernel_rfl) (by kernel_rfl) (by kernel_rfl) (by rfl) (by first | assumption | decide +kernel) (by decide +kernel) ⟨rfl, rfl, rfl, rfl, rfl, by decide +kernel⟩ ?hw ?hc
  case hw => w_witness2
  case hc => exact Q6.law_walk (by kernel_rfl) (by kernel_rfl)
end
