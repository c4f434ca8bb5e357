import PyProof.Rows.All
import HandS.ExcInit
import HandS.ExcField
import HandS.HeadHook4
import HandS.Codes
import Wide.All
import OpenK.AllK
import Wide.FinOn
import KE.KStateDown
import Lean
import HandS.ForMost
import HandS.Exc
import HandS.Defaults
import HandS.Head0
import HandS.Head1
import HandS.Head2
import HandS.HeadHook1
import HandS.HeadHook2
import HandS.HeadHook3
import HandS.MakeKw
import HandS.IsInst
import HandS.OwnEq
import HandS.ListItems
import KE.KDictPairs
import KE.KDictCopyH
import KE.KDictOf
import HandS.Words
import KE.SortKeyHeap
import HandS.Lambda
import HandS.Wide
import HandS.WideMore
import HandS.IntHex
import HandS.Walk
import HandS.TupAny
import HandS.Zip
import HandS.Style
import HandS.Strs
import HandS.ExcOwn
import HandS.TryOnly
import HandS.HeadWalk
import PySem.Challenge.RW_casknotes_k34_whole_takings_and_shares_a
set_option Elab.async false
set_option linter.all false
set_option maxRecDepth 100000
set_option maxHeartbeats 2000000
/-! K34Exc: B.__init__(self, ..) of an own exception class B that has no __init__ of its own. -/
namespace K34
open PySem PySem.Spec PyProof.Rows L2
/-- what of the base class B is asked -/
structure BaseI (K : PySem.W.Frag) (B : Addr) : Prop where
  g : PySem.W.specialIn K (.ref B) "__getattribute__" = some (some (.builtin "type.__getattribute__"))
  r : PySem.W.readsIn K B (.type "type") = true
  f : PySem.W.findCls K (.ref B) (.type "type") "__init__" = some (.val (.builtin "ValueError.__init__"))
  kp : PySem.W.keepIn K (.ref B) = true
def baseB (K : PySem.W.Frag) (B : Addr) : Bool := decide (PySem.W.specialIn K (.ref B) "__getattribute__" = some (some (.builtin "type.__getattribute__"))) && (PySem.W.readsIn K B (.type "type") &&
  ((match PySem.W.findCls K (.ref B) (.type "type") "__init__" with
    | some (.val (.builtin z)) => decide (z = "ValueError.__init__")
    | _ => false) && PySem.W.keepIn K (.ref B)))
theorem baseB_ok {K : PySem.W.Frag} {B : Addr} (h : baseB K B = true) : BaseI K B := by
  obtain ⟨h1, h⟩ := Bool.and_eq_true_iff.mp h
  obtain ⟨h2, h⟩ := Bool.and_eq_true_iff.mp h
  obtain ⟨h3, h4⟩ := Bool.and_eq_true_iff.mp h
  refine ⟨of_decide_eq_true h1, h2, ?_, h4⟩
  split at h3
  · rename_i z e
    rw [e, of_decide_eq_true h3]
  · cases h3
section
variable {X : Cx} {e : Expr} {es : List Expr} {ta : TA} {x : Str} {p1 p2 pos : Pos} {B : Addr}
theorem pe_baseinit {pl : Sem Bool} (hg : Gl X x) (hm : X.mg x = some (.ref B)) (b : BaseI X.K B) (ha : PA X (e :: es) ta)
    (hdb : (x == ("__debug__" : Str)) = false := by decide)
    (hc : eval (.Call (.Attribute (.Name x p1) "__init__" p2) (e :: es) [] pos) X.env = (do
      let ov ← eval (.Name x p1) X.env
      standAt p2.atName
      let (f, first) ← holding [ov] (getMethod ov "__init__" pl)
      callWith pos f first (backTo pos (starEach (e :: es) X.env)) (backToKw pos (keywordEach [] X.env))) := by rfl)
    (he : starEach (e :: es) X.env = (false, eval e X.env) :: starEach es X.env := by rfl) (hpl : (backTo pos (starEach es X.env)).any (·.1) = false := by rfl) :
    PE X (.Call (.Attribute (.Name x p1) "__init__" p2) (e :: es) [] pos) (tVeI X.K ta) := by
  refine ⟨fun pins s σ H Q I h => ?_⟩
  refine PySem.W.methodCall_KW (ld_glob I hg hm ?_ hdb) hc
  refine PySem.W.method_cls I.kIn b.g (PySem.W.cls_value I.kIn b.r b.f (by decide +kernel) ?_)
  refine PyProof.Rows.callWith_method1 (thn (ha.run pos pins _ σ H _ ((I.tok _).tok _) h) fun us s1 ⟨vs, H1, I1, r1, a, C, ws, ev, hl, T, ea, q⟩ => ?_) he hpl
  subst ev
  cases r1 with
  | @cons _ u0 _ ur ra rw' =>
    obtain rfl : u0 = Value.ref a := ra
    have hlen : ur.length ≤ sizeLine := by
      rw [← Paired.length rw', sizeLine_eq]
      omega
    exact oinit_ok T I1 ea hlen fun s' J => ⟨.non, H1, J, rfl, q⟩
end
/-- an exception class over ValueError: what OexC asks, as a Bool -/
def exObjB (C : Addr) : Obj → Bool
  | ⟨.type c, _, .cls ⟨_, _, .ref D :: bm, _, _, true, _, _, _, _, false⟩, sl⟩ => decide (c = "type") && (decide (D = C) && (PySem.HandSPX.refsVE bm && (match sl.toList with
    | [_, _, _, _, some (.builtin z), _] => decide (z = "ValueError.__new__")
    | _ => false)))
  | _ => false
theorem exObjB_ok {C : Addr} {o : Obj} (h : exObjB C o = true) : ∃ nm q N bs bm sn sub ab col dd k0 k1 k2 k3 k5, o = excClassObj nm q C N bs bm true sn sub ab col dd k0 k1 k2 k3 k5 "ValueError.__new__" ∧ PySem.HandSPX.refsVE bm = true := by
  unfold exObjB at h
  split at h
  · rename_i c dd nm bs D bm N q sn sub ab col sl
    obtain ⟨h1, h⟩ := Bool.and_eq_true_iff.mp h
    obtain ⟨h2, h⟩ := Bool.and_eq_true_iff.mp h
    obtain ⟨h3, h4⟩ := Bool.and_eq_true_iff.mp h
    obtain rfl := of_decide_eq_true h1
    obtain rfl := of_decide_eq_true h2
    split at h4
    · rename_i k0 k1 k2 k3 z k5 e
      obtain rfl := of_decide_eq_true h4
      have es : sl = #[k0, k1, k2, k3, some (.builtin "ValueError.__new__"), k5] := by
        rw [← Array.toArray_toList (xs := sl), e]
      subst es
      exact ⟨nm, q, N, bs, bm, sn, sub, ab, col, dd, k0, k1, k2, k3, k5, rfl, h3⟩
    · cases h4
  · cases h
def oexB (K : PySem.W.Frag) (C : Addr) : Bool :=
  (match K.lookup C with
    | some o => exObjB C o
    | none => false) && (decide (PySem.W.findIn K (.ref C) "__setattr__" = some (some (.builtin "object.__setattr__"))) && (decide (PySem.W.subIn K (.ref C) (.type "BaseException") = some true) && (decide (PySem.W.typeIn K (.ref C) = some (.type "type")) && PySem.W.keepIn K (.ref C))))
theorem oexB_ok {K : PySem.W.Frag} {C : Addr} (h : oexB K C = true) : OexC K C := by
  obtain ⟨h1, h⟩ := Bool.and_eq_true_iff.mp h
  obtain ⟨h2, h⟩ := Bool.and_eq_true_iff.mp h
  obtain ⟨h3, h⟩ := Bool.and_eq_true_iff.mp h
  obtain ⟨h4, h5⟩ := Bool.and_eq_true_iff.mp h
  refine ⟨?_, of_decide_eq_true h2, of_decide_eq_true h3, of_decide_eq_true h4, h5⟩
  split at h1
  · rename_i o e
    obtain ⟨nm, q, N, bs, bm, sn, sub, ab, col, dd, k0, k1, k2, k3, k5, eo, hb⟩ := exObjB_ok h1
    exact ⟨nm, q, N, bs, bm, sn, sub, ab, col, dd, k0, k1, k2, k3, k5, by rw [e, eo], hb⟩
  · cases h1
/-- all of Short that is asked: S the class, B CaskError, f its __init__ -/
structure ShortC (K : PySem.W.Frag) (S B f : Addr) : Prop where
  o : OexC K S
  x : XfC K S
  b : BaseI K B
  i : PySem.W.findIn K (.ref S) "__init__" = some (some (.ref f))
  t : PySem.W.typeIn K (.ref f) = some (.type "function")
  l : PySem.W.findIn K (.ref S) "lacks" = some none
  e : PySem.W.exmOne K (.ref S) (.ref S) = some true
def shortB (K : PySem.W.Frag) (S B f : Addr) : Bool := oexB K S && (xfB K S && (baseB K B && (decide (PySem.W.findIn K (.ref S) "__init__" = some (some (.ref f))) && (decide (PySem.W.typeIn K (.ref f) = some (.type "function")) && (decide (PySem.W.findIn K (.ref S) "lacks" = some none) && decide (PySem.W.exmOne K (.ref S) (.ref S) = some true))))))
theorem shortB_ok {K : PySem.W.Frag} {S B f : Addr} (h : shortB K S B f = true) : ShortC K S B f := by
  obtain ⟨h1, h⟩ := Bool.and_eq_true_iff.mp h
  obtain ⟨h2, h⟩ := Bool.and_eq_true_iff.mp h
  obtain ⟨h3, h⟩ := Bool.and_eq_true_iff.mp h
  obtain ⟨h4, h⟩ := Bool.and_eq_true_iff.mp h
  obtain ⟨h5, h⟩ := Bool.and_eq_true_iff.mp h
  obtain ⟨h6, h7⟩ := Bool.and_eq_true_iff.mp h
  exact ⟨oexB_ok h1, xfB_ok h2, baseB_ok h3, of_decide_eq_true h4, of_decide_eq_true h5, of_decide_eq_true h6, of_decide_eq_true h7⟩
/-- what isinstance and != ask of a class -/
structure WeC (K : PySem.W.Frag) (C : Addr) : Prop where
  i : C8.InsC K C
  n : PySem.W.findIn K (.ref C) "__ne__" = some (some (.builtin "object.__ne__"))
  o : PySem.W.subIn K (.ref C) (.type "object") = some true
def weB (K : PySem.W.Frag) (C : Addr) : Bool := decide (PySem.W.findIn K (.ref C) "__class__" = some (some (.builtin "object.__class__"))) && (decide (PySem.W.specialIn K (.builtin "object.__class__") "__get__" = some (some (.builtin "getset_descriptor.__get__"))) &&
  (decide (PySem.W.takesIn K (.builtin "object.__class__") = some true) && (decide (PySem.W.mroIn K C (.type "object") = some true) && (decide (PySem.W.kitOne K (.ref C) (.ref C) = some true) &&
  (decide (PySem.W.findIn K (.ref C) "__ne__" = some (some (.builtin "object.__ne__"))) && decide (PySem.W.subIn K (.ref C) (.type "object") = some true))))))
theorem weB_ok {K : PySem.W.Frag} {C : Addr} (c : Cls K C) (h : weB K C = true) : WeC K C := by
  obtain ⟨h1, h⟩ := Bool.and_eq_true_iff.mp h
  obtain ⟨h2, h⟩ := Bool.and_eq_true_iff.mp h
  obtain ⟨h3, h⟩ := Bool.and_eq_true_iff.mp h
  obtain ⟨h4, h⟩ := Bool.and_eq_true_iff.mp h
  obtain ⟨h5, h⟩ := Bool.and_eq_true_iff.mp h
  obtain ⟨h6, h7⟩ := Bool.and_eq_true_iff.mp h
  exact ⟨⟨c, of_decide_eq_true h1, of_decide_eq_true h2, of_decide_eq_true h3, of_decide_eq_true h4, of_decide_eq_true h5⟩, of_decide_eq_true h6, of_decide_eq_true h7⟩
end K34
set_option Elab.async false
set_option linter.all false
set_option maxRecDepth 100000
set_option maxHeartbeats 2000000
namespace K34
open PySem PySem.Spec PyProof.Rows L2
/-! ### the text by places -/
def top (i : Nat) : Stmt := PySem.Challenge.pw_casknotes_k34_whole_takings_and_shares_a.main.body.getD i (.Pass ⟨0, 0, 0, 0⟩)
/-- a def of the module -/
def gD (x : Str) (st : Stmt) (dfl : List He.Dv := []) : He.DefD := ⟨(x, none), x, x, defArgs st, defBody st, defScope st, dfl, []⟩
/-- a method -/
def mD (C m : Str) (q : Str) (st : Stmt) (dfl : List He.Dv := []) : He.DefD := ⟨(C, some m), m, q, defArgs st, defBody st, defScope st, dfl, []⟩
def fnL : List He.DefD := [
  mD "Unborne" "__init__" "Unborne.__init__" (inClass (top 7) 0),
  gD "is_whole" (top 17), gD "is_name" (top 18), gD "is_mark" (top 19), gD "mark_number" (top 20), gD "is_grains" (top 21), gD "is_day" (top 22),
  gD "divisor_of" (top 24),
  mD "Weight" "__init__" "Weight.__init__" (inClass (top 25) 0) [.int 1], mD "Weight" "__eq__" "Weight.__eq__" (inClass (top 25) 1),
  mD "Weight" "plus" "Weight.plus" (inClass (top 25) 4), mD "Weight" "less" "Weight.less" (inClass (top 25) 5), mD "Weight" "times" "Weight.times" (inClass (top 25) 6) [.int 1],
  mD "Weight" "is_below" "Weight.is_below" (inClass (top 25) 7), mD "Weight" "is_nought" "Weight.is_nought" (inClass (top 25) 8), mD "Weight" "whole_up" "Weight.whole_up" (inClass (top 25) 9),
  gD "total" (top 26), gD "is_part" (top 29), gD "is_parts" (top 30),
  mD "Cask" "__init__" "Cask.__init__" (inClass (top 31) 0) [.non], mD "Cask" "__len__" "Cask.__len__" (inClass (top 31) 2), mD "Cask" "part" "Cask.part" (inClass (top 31) 5),
  mD "Cask" "weight_of" "Cask.weight_of" (inClass (top 31) 6), mD "Cask" "lessened" "Cask.lessened" (inClass (top 31) 7),
  gD "with_parts" (top 32), gD "casks_by_age" (top 33), gD "taking" (top 35), gD "is_taken" (top 36), gD "taking_holds" (top 37),
  mD "Note" "__init__" "Note.__init__" (inClass (top 39) 0) [.int 0], gD "age_of" (top 41), gD "by_age" (top 42), gD "grains_of" (top 43), gD "shares_of" (top 45),
  gD "_law_deck" (top 47), gD "_law_draw" (top 48), gD "_law_names" (top 49), gD "_law_sixteens" (top 50), gD "_law_marks" (top 51), gD "_law_lowest" (top 52), gD "_law_weight" (top 54), gD "_law_day" (top 55),
  gD "_law_casks" (top 56), gD "_law_made" (top 57), gD "_law_notes" (top 59), gD "_law_note" (top 60), gD "_law_told" (top 62), gD "_law_behind" (top 63), gD "_law_added" (top 64),
  gD "_law_twice_right" (top 65), gD "_law_shares_right" (top 66), gD "law" (top 67)]
def faG0 : List He.Fa := [.glo "law", .glo "_law_deck", .glo "_law_draw", .glo "_law_names", .glo "_law_sixteens", .glo "_law_marks", .glo "_law_lowest", .glo "_law_weight", .glo "_law_day", .glo "_law_casks", .glo "_law_made", .glo "_law_notes", .glo "_law_note", .glo "_law_told", .glo "_law_behind", .glo "_law_added", .glo "_law_twice_right", .glo "_law_shares_right", .glo "is_whole", .glo "is_name", .glo "is_mark", .glo "mark_number", .glo "is_grains", .glo "is_day", .glo "divisor_of"]
def faG1 : List He.Fa := [.glo "Weight", .glo "total", .glo "is_part", .glo "is_parts", .glo "Cask", .glo "with_parts", .glo "casks_by_age", .glo "taking", .glo "is_taken", .glo "taking_holds", .glo "Note", .glo "age_of", .glo "by_age", .glo "grains_of", .glo "shares_of", .glo "Short", .glo "CaskError", .glo "NoName", .glo "NoDay", .glo "NoWeight", .glo "NoGrains", .glo "NoWhole", .glo "NoWare"]
def faF : List He.Fa := [.free "len", .free "isinstance", .free "all", .free "zip", .free "tuple", .free "sorted", .free "list", .free "dict", .free "set", .free "sum", .free "min", .free "int", .free "range", .free "str", .free "bool"]
def faI : List He.Fa := [.int "LONGEST_NAME" 8, .int "LONGEST_NUMBER" 6, .int "LAST_DAY" 1200, .int "MOST_PARTS" 4, .str "LETTERS" "abcdefghijklmnopqrstuvwxyz", .str "SIXTEENS" "0123456789abcdef"]
def faC0 : List He.Fa := [.cls "Weight", .mkr "Weight", .noat "Weight" "top", .noat "Weight" "bottom", .meth "Weight" "__eq__", .meth "Weight" "plus", .meth "Weight" "less", .meth "Weight" "times", .meth "Weight" "is_below", .meth "Weight" "is_nought", .meth "Weight" "whole_up", .cls "Cask", .mkr "Cask", .noat "Cask" "mark", .noat "Cask" "since", .noat "Cask" "parts", .meth "Cask" "__len__", .meth "Cask" "part", .meth "Cask" "weight_of", .meth "Cask" "lessened"]
def faC1 : List He.Fa := [.cls "Note", .mkr "Note", .noat "Note" "name", .noat "Note" "ware", .noat "Note" "grains", .noat "Note" "born"]
def faL : List He.Fa := faG0 ++ faG1 ++ faF ++ faI ++ faC0 ++ faC1
def exB (K : PySem.W.Frag) : Bool := weB K (He.ga K "Weight") && (weB K (He.ga K "Cask") && shortB K (He.ga K "Short") (He.ga K "CaskError") (He.ma K (He.ga K "Unborne") "__init__"))
def tfL : List He.Defn := [("casks_by_age", none)]
/-! ### the Hook: hookX's facts over a frame that holds the statics' table besides -/
def asY (g : Addr → Option Obj) : List Addr := He.asD g 5 ++ [cStatics]
def obZ (fa : List He.Fa) (fn : List He.DefD) (tf : List He.Defn) (ex : PySem.W.Frag → Bool) (g : Addr → Option Obj) : He.AlX := (He.obsT fa fn [] (He.frT g (asY g)), ex (He.frT g (asY g)) && He.tabsB g tf (He.frT g (asY g)))
def obY (g : Addr → Option Obj) : He.AlX := obZ faL fnL tfL exB g
theorem saysZ {fa : List He.Fa} {fn : List He.DefD} {tf : List He.Defn} {ex : PySem.W.Frag → Bool} {w : World} {h : Heap} (e : obZ fa fn tf ex h.get? = He.valX fn [] w) : He.SaysX fa fn [] tf ex w h (He.frT h.get? (asY h.get?)) := by
  generalize hK : He.frT h.get? (asY h.get?) = K at *
  have e1 : He.obsT fa fn [] K = He.valT fn [] w := by
    have z := congrArg (fun z : He.AlX => z.1) e
    rw [← hK]
    exact z
  have e2 : (ex K && He.tabsB h.get? tf K) = true := by
    have z := congrArg (fun z : He.AlX => z.2) e
    rw [← hK]
    exact z
  obtain ⟨h1, h2⟩ := Bool.and_eq_true_iff.mp e2
  have at_ : ∀ q ∈ tf, PySem.W.codeHdIn K (He.cT K q).1 (He.cT K q).2 = true ∧ ∃ ob, h.get? (He.cT K q).2 = some ob ∧ He.emptyTab ob = true := fun q hq => by
    obtain ⟨h3, h4⟩ := Bool.and_eq_true_iff.mp (List.all_eq_true.mp h2 q hq)
    refine ⟨h3, ?_⟩
    cases z : h.get? (He.cT K q).2 with
    | none =>
      rw [z] at h4
      cases h4
    | some ob =>
      rw [z] at h4
      exact ⟨ob, rfl, h4⟩
  refine ⟨e1, h1, fun q hq => (at_ q hq).1, fun q hq => ?_, fun q hq => ?_⟩
  · obtain ⟨_, ob, z, y⟩ := at_ q hq
    rw [← hK] at z ⊢
    exact He.frT_none z y
  · obtain ⟨_, ob, z, y⟩ := at_ q hq
    rw [z, He.emptyTab_eq y]
def hk : PySem.W.Hook where
  α := He.AlX
  obs := fun s => obY s.heap.get?
  val := fun w => He.valX fnL [] w
  says := fun w h => ∃ K : PySem.W.Frag, K.In h ∧ He.SaysX faL fnL [] tfL exB w h K
  of := fun _ _ e => ⟨_, He.frT_in, saysZ e⟩
  keeps := fun _ _ _ ⟨K, hK, c⟩ k => ⟨K, PySem.W.Frag.In.keeps hK k, ⟨c.t, c.more, c.hd, c.out, fun q hq => k _ _ (c.empty q hq)⟩⟩
def ob (s : PySem.W.SharedT) : He.AlX := obY (HandSHeadRun.getT s)
theorem ob_eq (s : PySem.W.SharedT) : ob s = hk.obs s.abs := by
  have z : HandSHeadRun.getT s = s.abs.heap.get? := funext (HandSHeadRun.getT_eq s)
  show obY (HandSHeadRun.getT s) = obY s.abs.heap.get?
  rw [z]
abbrev R : PySem.W.OpenRow := PySem.W.OpenLaw.row PySem.Challenge.rw_casknotes_k34_whole_takings_and_shares_a
end K34
set_option Elab.async false
set_option linter.all false
set_option maxRecDepth 100000
set_option maxHeartbeats 2000000
/-! K34Base: the facts of the head, by names (printed by gen_base.py); defs as they are called. -/
namespace K34
open PySem PySem.Spec PyProof.Rows L2
/-- what the head tells -/
structure Wd (K : PySem.W.Frag) (mg : Str → Option Value) : Prop where
  hp : ∃ h, K.In h ∧ h.Ns mainGlobals mg
  fa : ∀ f ∈ faL, f.ok K = true
  ex : exB K = true
  fd : ∀ d ∈ fnL, ∃ fd, FunD K d.name d.qual d.params d.body d.scope (d.dvs K) (d.kws K) (He.fAd K d.at_) fd
section
variable {K : PySem.W.Frag} {mg : Str → Option Value}
theorem Wd.fi (Z : Wd K mg) (i : Nat) {f : He.Fa} (h : faL[i]? = some f) : f.ok K = true := Z.fa f (List.mem_of_getElem? h)
theorem Wd.di (Z : Wd K mg) (i : Nat) {d : He.DefD} (h : fnL[i]? = some d) : ∃ fd, FunD K d.name d.qual d.params d.body d.scope (d.dvs K) (d.kws K) (He.fAd K d.at_) fd := Z.fd d (List.mem_of_getElem? h)
theorem Wd.glo (Z : Wd K mg) {x : Str} (h : (He.Fa.glo x).ok K = true) : mg x = some (.ref (He.ga K x)) := let ⟨_, X, G⟩ := Z.hp; He.glo_ok X G h
theorem Wd.free (Z : Wd K mg) {x : Str} (h : (He.Fa.free x).ok K = true) : mg x = none := let ⟨_, X, G⟩ := Z.hp; He.free_ok X G h
theorem Wd.int (Z : Wd K mg) {x : Str} {i : Int} (h : (He.Fa.int x i).ok K = true) : ∃ t, mg x = some (.int i t) := let ⟨_, X, G⟩ := Z.hp; He.int_ok X G h
theorem Wd.str (Z : Wd K mg) {x z : Str} (h : (He.Fa.str x z).ok K = true) : ∃ t, mg x = some (.str z t) := let ⟨_, X, G⟩ := Z.hp; He.str_ok X G h
theorem Wd.g_law (Z : Wd K mg) : mg "law" = some (.ref (He.ga K "law")) := Z.glo (Z.fi 0 rfl)
theorem Wd.g__law_deck (Z : Wd K mg) : mg "_law_deck" = some (.ref (He.ga K "_law_deck")) := Z.glo (Z.fi 1 rfl)
theorem Wd.g__law_draw (Z : Wd K mg) : mg "_law_draw" = some (.ref (He.ga K "_law_draw")) := Z.glo (Z.fi 2 rfl)
theorem Wd.g__law_names (Z : Wd K mg) : mg "_law_names" = some (.ref (He.ga K "_law_names")) := Z.glo (Z.fi 3 rfl)
theorem Wd.g__law_sixteens (Z : Wd K mg) : mg "_law_sixteens" = some (.ref (He.ga K "_law_sixteens")) := Z.glo (Z.fi 4 rfl)
theorem Wd.g__law_marks (Z : Wd K mg) : mg "_law_marks" = some (.ref (He.ga K "_law_marks")) := Z.glo (Z.fi 5 rfl)
theorem Wd.g__law_lowest (Z : Wd K mg) : mg "_law_lowest" = some (.ref (He.ga K "_law_lowest")) := Z.glo (Z.fi 6 rfl)
theorem Wd.g__law_weight (Z : Wd K mg) : mg "_law_weight" = some (.ref (He.ga K "_law_weight")) := Z.glo (Z.fi 7 rfl)
theorem Wd.g__law_day (Z : Wd K mg) : mg "_law_day" = some (.ref (He.ga K "_law_day")) := Z.glo (Z.fi 8 rfl)
theorem Wd.g__law_casks (Z : Wd K mg) : mg "_law_casks" = some (.ref (He.ga K "_law_casks")) := Z.glo (Z.fi 9 rfl)
theorem Wd.g__law_made (Z : Wd K mg) : mg "_law_made" = some (.ref (He.ga K "_law_made")) := Z.glo (Z.fi 10 rfl)
theorem Wd.g__law_notes (Z : Wd K mg) : mg "_law_notes" = some (.ref (He.ga K "_law_notes")) := Z.glo (Z.fi 11 rfl)
theorem Wd.g__law_note (Z : Wd K mg) : mg "_law_note" = some (.ref (He.ga K "_law_note")) := Z.glo (Z.fi 12 rfl)
theorem Wd.g__law_told (Z : Wd K mg) : mg "_law_told" = some (.ref (He.ga K "_law_told")) := Z.glo (Z.fi 13 rfl)
theorem Wd.g__law_behind (Z : Wd K mg) : mg "_law_behind" = some (.ref (He.ga K "_law_behind")) := Z.glo (Z.fi 14 rfl)
theorem Wd.g__law_added (Z : Wd K mg) : mg "_law_added" = some (.ref (He.ga K "_law_added")) := Z.glo (Z.fi 15 rfl)
theorem Wd.g__law_twice_right (Z : Wd K mg) : mg "_law_twice_right" = some (.ref (He.ga K "_law_twice_right")) := Z.glo (Z.fi 16 rfl)
theorem Wd.g__law_shares_right (Z : Wd K mg) : mg "_law_shares_right" = some (.ref (He.ga K "_law_shares_right")) := Z.glo (Z.fi 17 rfl)
theorem Wd.g_is_whole (Z : Wd K mg) : mg "is_whole" = some (.ref (He.ga K "is_whole")) := Z.glo (Z.fi 18 rfl)
theorem Wd.g_is_name (Z : Wd K mg) : mg "is_name" = some (.ref (He.ga K "is_name")) := Z.glo (Z.fi 19 rfl)
theorem Wd.g_is_mark (Z : Wd K mg) : mg "is_mark" = some (.ref (He.ga K "is_mark")) := Z.glo (Z.fi 20 rfl)
theorem Wd.g_mark_number (Z : Wd K mg) : mg "mark_number" = some (.ref (He.ga K "mark_number")) := Z.glo (Z.fi 21 rfl)
theorem Wd.g_is_grains (Z : Wd K mg) : mg "is_grains" = some (.ref (He.ga K "is_grains")) := Z.glo (Z.fi 22 rfl)
theorem Wd.g_is_day (Z : Wd K mg) : mg "is_day" = some (.ref (He.ga K "is_day")) := Z.glo (Z.fi 23 rfl)
theorem Wd.g_divisor_of (Z : Wd K mg) : mg "divisor_of" = some (.ref (He.ga K "divisor_of")) := Z.glo (Z.fi 24 rfl)
theorem Wd.g_Weight (Z : Wd K mg) : mg "Weight" = some (.ref (He.ga K "Weight")) := Z.glo (Z.fi 25 rfl)
theorem Wd.g_total (Z : Wd K mg) : mg "total" = some (.ref (He.ga K "total")) := Z.glo (Z.fi 26 rfl)
theorem Wd.g_is_part (Z : Wd K mg) : mg "is_part" = some (.ref (He.ga K "is_part")) := Z.glo (Z.fi 27 rfl)
theorem Wd.g_is_parts (Z : Wd K mg) : mg "is_parts" = some (.ref (He.ga K "is_parts")) := Z.glo (Z.fi 28 rfl)
theorem Wd.g_Cask (Z : Wd K mg) : mg "Cask" = some (.ref (He.ga K "Cask")) := Z.glo (Z.fi 29 rfl)
theorem Wd.g_with_parts (Z : Wd K mg) : mg "with_parts" = some (.ref (He.ga K "with_parts")) := Z.glo (Z.fi 30 rfl)
theorem Wd.g_casks_by_age (Z : Wd K mg) : mg "casks_by_age" = some (.ref (He.ga K "casks_by_age")) := Z.glo (Z.fi 31 rfl)
theorem Wd.g_taking (Z : Wd K mg) : mg "taking" = some (.ref (He.ga K "taking")) := Z.glo (Z.fi 32 rfl)
theorem Wd.g_is_taken (Z : Wd K mg) : mg "is_taken" = some (.ref (He.ga K "is_taken")) := Z.glo (Z.fi 33 rfl)
theorem Wd.g_taking_holds (Z : Wd K mg) : mg "taking_holds" = some (.ref (He.ga K "taking_holds")) := Z.glo (Z.fi 34 rfl)
theorem Wd.g_Note (Z : Wd K mg) : mg "Note" = some (.ref (He.ga K "Note")) := Z.glo (Z.fi 35 rfl)
theorem Wd.g_age_of (Z : Wd K mg) : mg "age_of" = some (.ref (He.ga K "age_of")) := Z.glo (Z.fi 36 rfl)
theorem Wd.g_by_age (Z : Wd K mg) : mg "by_age" = some (.ref (He.ga K "by_age")) := Z.glo (Z.fi 37 rfl)
theorem Wd.g_grains_of (Z : Wd K mg) : mg "grains_of" = some (.ref (He.ga K "grains_of")) := Z.glo (Z.fi 38 rfl)
theorem Wd.g_shares_of (Z : Wd K mg) : mg "shares_of" = some (.ref (He.ga K "shares_of")) := Z.glo (Z.fi 39 rfl)
theorem Wd.g_Short (Z : Wd K mg) : mg "Short" = some (.ref (He.ga K "Short")) := Z.glo (Z.fi 40 rfl)
theorem Wd.g_CaskError (Z : Wd K mg) : mg "CaskError" = some (.ref (He.ga K "CaskError")) := Z.glo (Z.fi 41 rfl)
theorem Wd.g_NoName (Z : Wd K mg) : mg "NoName" = some (.ref (He.ga K "NoName")) := Z.glo (Z.fi 42 rfl)
theorem Wd.g_NoDay (Z : Wd K mg) : mg "NoDay" = some (.ref (He.ga K "NoDay")) := Z.glo (Z.fi 43 rfl)
theorem Wd.g_NoWeight (Z : Wd K mg) : mg "NoWeight" = some (.ref (He.ga K "NoWeight")) := Z.glo (Z.fi 44 rfl)
theorem Wd.g_NoGrains (Z : Wd K mg) : mg "NoGrains" = some (.ref (He.ga K "NoGrains")) := Z.glo (Z.fi 45 rfl)
theorem Wd.g_NoWhole (Z : Wd K mg) : mg "NoWhole" = some (.ref (He.ga K "NoWhole")) := Z.glo (Z.fi 46 rfl)
theorem Wd.g_NoWare (Z : Wd K mg) : mg "NoWare" = some (.ref (He.ga K "NoWare")) := Z.glo (Z.fi 47 rfl)
theorem Wd.f_len (Z : Wd K mg) : mg "len" = none := Z.free (Z.fi 48 rfl)
theorem Wd.f_isinstance (Z : Wd K mg) : mg "isinstance" = none := Z.free (Z.fi 49 rfl)
theorem Wd.f_all (Z : Wd K mg) : mg "all" = none := Z.free (Z.fi 50 rfl)
theorem Wd.f_zip (Z : Wd K mg) : mg "zip" = none := Z.free (Z.fi 51 rfl)
theorem Wd.f_tuple (Z : Wd K mg) : mg "tuple" = none := Z.free (Z.fi 52 rfl)
theorem Wd.f_sorted (Z : Wd K mg) : mg "sorted" = none := Z.free (Z.fi 53 rfl)
theorem Wd.f_list (Z : Wd K mg) : mg "list" = none := Z.free (Z.fi 54 rfl)
theorem Wd.f_dict (Z : Wd K mg) : mg "dict" = none := Z.free (Z.fi 55 rfl)
theorem Wd.f_set (Z : Wd K mg) : mg "set" = none := Z.free (Z.fi 56 rfl)
theorem Wd.f_sum (Z : Wd K mg) : mg "sum" = none := Z.free (Z.fi 57 rfl)
theorem Wd.f_min (Z : Wd K mg) : mg "min" = none := Z.free (Z.fi 58 rfl)
theorem Wd.f_int (Z : Wd K mg) : mg "int" = none := Z.free (Z.fi 59 rfl)
theorem Wd.f_range (Z : Wd K mg) : mg "range" = none := Z.free (Z.fi 60 rfl)
theorem Wd.f_str (Z : Wd K mg) : mg "str" = none := Z.free (Z.fi 61 rfl)
theorem Wd.f_bool (Z : Wd K mg) : mg "bool" = none := Z.free (Z.fi 62 rfl)
theorem Wd.i_LONGEST_NAME (Z : Wd K mg) : ∃ t, mg "LONGEST_NAME" = some (.int 8 t) := Z.int (Z.fi 63 rfl)
theorem Wd.i_LONGEST_NUMBER (Z : Wd K mg) : ∃ t, mg "LONGEST_NUMBER" = some (.int 6 t) := Z.int (Z.fi 64 rfl)
theorem Wd.i_LAST_DAY (Z : Wd K mg) : ∃ t, mg "LAST_DAY" = some (.int 1200 t) := Z.int (Z.fi 65 rfl)
theorem Wd.i_MOST_PARTS (Z : Wd K mg) : ∃ t, mg "MOST_PARTS" = some (.int 4 t) := Z.int (Z.fi 66 rfl)
theorem Wd.s_LETTERS (Z : Wd K mg) : ∃ t, mg "LETTERS" = some (.str "abcdefghijklmnopqrstuvwxyz" t) := Z.str (Z.fi 67 rfl)
theorem Wd.s_SIXTEENS (Z : Wd K mg) : ∃ t, mg "SIXTEENS" = some (.str "0123456789abcdef" t) := Z.str (Z.fi 68 rfl)
theorem Wd.cl_Weight (Z : Wd K mg) : Cls K (He.ga K "Weight") := He.cls_ok (Z.fi 69 rfl)
theorem Wd.mk_Weight (Z : Wd K mg) : Mk K (He.ga K "Weight") (He.ma K (He.ga K "Weight") "__init__") := He.mkr_ok (Z.fi 70 rfl)
theorem Wd.n_Weight_top (Z : Wd K mg) : NoAttr K (He.ga K "Weight") "top" := He.noat_ok (Z.fi 71 rfl)
theorem Wd.n_Weight_bottom (Z : Wd K mg) : NoAttr K (He.ga K "Weight") "bottom" := He.noat_ok (Z.fi 72 rfl)
theorem Wd.m_Weight___eq__ (Z : Wd K mg) : Meth K (He.ga K "Weight") "__eq__" (He.ma K (He.ga K "Weight") "__eq__") := He.meth_ok (Z.fi 73 rfl)
theorem Wd.m_Weight_plus (Z : Wd K mg) : Meth K (He.ga K "Weight") "plus" (He.ma K (He.ga K "Weight") "plus") := He.meth_ok (Z.fi 74 rfl)
theorem Wd.m_Weight_less (Z : Wd K mg) : Meth K (He.ga K "Weight") "less" (He.ma K (He.ga K "Weight") "less") := He.meth_ok (Z.fi 75 rfl)
theorem Wd.m_Weight_times (Z : Wd K mg) : Meth K (He.ga K "Weight") "times" (He.ma K (He.ga K "Weight") "times") := He.meth_ok (Z.fi 76 rfl)
theorem Wd.m_Weight_is_below (Z : Wd K mg) : Meth K (He.ga K "Weight") "is_below" (He.ma K (He.ga K "Weight") "is_below") := He.meth_ok (Z.fi 77 rfl)
theorem Wd.m_Weight_is_nought (Z : Wd K mg) : Meth K (He.ga K "Weight") "is_nought" (He.ma K (He.ga K "Weight") "is_nought") := He.meth_ok (Z.fi 78 rfl)
theorem Wd.m_Weight_whole_up (Z : Wd K mg) : Meth K (He.ga K "Weight") "whole_up" (He.ma K (He.ga K "Weight") "whole_up") := He.meth_ok (Z.fi 79 rfl)
theorem Wd.cl_Cask (Z : Wd K mg) : Cls K (He.ga K "Cask") := He.cls_ok (Z.fi 80 rfl)
theorem Wd.mk_Cask (Z : Wd K mg) : Mk K (He.ga K "Cask") (He.ma K (He.ga K "Cask") "__init__") := He.mkr_ok (Z.fi 81 rfl)
theorem Wd.n_Cask_mark (Z : Wd K mg) : NoAttr K (He.ga K "Cask") "mark" := He.noat_ok (Z.fi 82 rfl)
theorem Wd.n_Cask_since (Z : Wd K mg) : NoAttr K (He.ga K "Cask") "since" := He.noat_ok (Z.fi 83 rfl)
theorem Wd.n_Cask_parts (Z : Wd K mg) : NoAttr K (He.ga K "Cask") "parts" := He.noat_ok (Z.fi 84 rfl)
theorem Wd.m_Cask___len__ (Z : Wd K mg) : Meth K (He.ga K "Cask") "__len__" (He.ma K (He.ga K "Cask") "__len__") := He.meth_ok (Z.fi 85 rfl)
theorem Wd.m_Cask_part (Z : Wd K mg) : Meth K (He.ga K "Cask") "part" (He.ma K (He.ga K "Cask") "part") := He.meth_ok (Z.fi 86 rfl)
theorem Wd.m_Cask_weight_of (Z : Wd K mg) : Meth K (He.ga K "Cask") "weight_of" (He.ma K (He.ga K "Cask") "weight_of") := He.meth_ok (Z.fi 87 rfl)
theorem Wd.m_Cask_lessened (Z : Wd K mg) : Meth K (He.ga K "Cask") "lessened" (He.ma K (He.ga K "Cask") "lessened") := He.meth_ok (Z.fi 88 rfl)
theorem Wd.cl_Note (Z : Wd K mg) : Cls K (He.ga K "Note") := He.cls_ok (Z.fi 89 rfl)
theorem Wd.mk_Note (Z : Wd K mg) : Mk K (He.ga K "Note") (He.ma K (He.ga K "Note") "__init__") := He.mkr_ok (Z.fi 90 rfl)
theorem Wd.n_Note_name (Z : Wd K mg) : NoAttr K (He.ga K "Note") "name" := He.noat_ok (Z.fi 91 rfl)
theorem Wd.n_Note_ware (Z : Wd K mg) : NoAttr K (He.ga K "Note") "ware" := He.noat_ok (Z.fi 92 rfl)
theorem Wd.n_Note_grains (Z : Wd K mg) : NoAttr K (He.ga K "Note") "grains" := He.noat_ok (Z.fi 93 rfl)
theorem Wd.n_Note_born (Z : Wd K mg) : NoAttr K (He.ga K "Note") "born" := He.noat_ok (Z.fi 94 rfl)
theorem Wd.we (Z : Wd K mg) : WeC K (He.ga K "Weight") := weB_ok Z.cl_Weight (Bool.and_eq_true_iff.mp Z.ex).1
theorem Wd.ck (Z : Wd K mg) : WeC K (He.ga K "Cask") := weB_ok Z.cl_Cask (Bool.and_eq_true_iff.mp (Bool.and_eq_true_iff.mp Z.ex).2).1
theorem Wd.sh (Z : Wd K mg) : ShortC K (He.ga K "Short") (He.ga K "CaskError") (He.ma K (He.ga K "Unborne") "__init__") := shortB_ok (Bool.and_eq_true_iff.mp (Bool.and_eq_true_iff.mp Z.ex).2).2
theorem Wd.d_Unborne___init__ (Z : Wd K mg) : ∃ fd, FunD K "__init__" "Unborne.__init__" (defArgs (inClass (top 7) 0)) (defBody (inClass (top 7) 0)) (defScope (inClass (top 7) 0)) [] [] (He.ma K (He.ga K "Unborne") "__init__") fd := Z.di 0 rfl
theorem Wd.d_is_whole (Z : Wd K mg) : ∃ fd, FunD K "is_whole" "is_whole" (defArgs (top 17)) (defBody (top 17)) (defScope (top 17)) [] [] (He.ga K "is_whole") fd := Z.di 1 rfl
theorem Wd.d_is_name (Z : Wd K mg) : ∃ fd, FunD K "is_name" "is_name" (defArgs (top 18)) (defBody (top 18)) (defScope (top 18)) [] [] (He.ga K "is_name") fd := Z.di 2 rfl
theorem Wd.d_is_mark (Z : Wd K mg) : ∃ fd, FunD K "is_mark" "is_mark" (defArgs (top 19)) (defBody (top 19)) (defScope (top 19)) [] [] (He.ga K "is_mark") fd := Z.di 3 rfl
theorem Wd.d_mark_number (Z : Wd K mg) : ∃ fd, FunD K "mark_number" "mark_number" (defArgs (top 20)) (defBody (top 20)) (defScope (top 20)) [] [] (He.ga K "mark_number") fd := Z.di 4 rfl
theorem Wd.d_is_grains (Z : Wd K mg) : ∃ fd, FunD K "is_grains" "is_grains" (defArgs (top 21)) (defBody (top 21)) (defScope (top 21)) [] [] (He.ga K "is_grains") fd := Z.di 5 rfl
theorem Wd.d_is_day (Z : Wd K mg) : ∃ fd, FunD K "is_day" "is_day" (defArgs (top 22)) (defBody (top 22)) (defScope (top 22)) [] [] (He.ga K "is_day") fd := Z.di 6 rfl
theorem Wd.d_divisor_of (Z : Wd K mg) : ∃ fd, FunD K "divisor_of" "divisor_of" (defArgs (top 24)) (defBody (top 24)) (defScope (top 24)) [] [] (He.ga K "divisor_of") fd := Z.di 7 rfl
theorem Wd.d_Weight___init__ (Z : Wd K mg) : ∃ fd, FunD K "__init__" "Weight.__init__" (defArgs (inClass (top 25) 0)) (defBody (inClass (top 25) 0)) (defScope (inClass (top 25) 0)) [.int 1] [] (He.ma K (He.ga K "Weight") "__init__") fd := Z.di 8 rfl
theorem Wd.d_Weight___eq__ (Z : Wd K mg) : ∃ fd, FunD K "__eq__" "Weight.__eq__" (defArgs (inClass (top 25) 1)) (defBody (inClass (top 25) 1)) (defScope (inClass (top 25) 1)) [] [] (He.ma K (He.ga K "Weight") "__eq__") fd := Z.di 9 rfl
theorem Wd.d_Weight_plus (Z : Wd K mg) : ∃ fd, FunD K "plus" "Weight.plus" (defArgs (inClass (top 25) 4)) (defBody (inClass (top 25) 4)) (defScope (inClass (top 25) 4)) [] [] (He.ma K (He.ga K "Weight") "plus") fd := Z.di 10 rfl
theorem Wd.d_Weight_less (Z : Wd K mg) : ∃ fd, FunD K "less" "Weight.less" (defArgs (inClass (top 25) 5)) (defBody (inClass (top 25) 5)) (defScope (inClass (top 25) 5)) [] [] (He.ma K (He.ga K "Weight") "less") fd := Z.di 11 rfl
theorem Wd.d_Weight_times (Z : Wd K mg) : ∃ fd, FunD K "times" "Weight.times" (defArgs (inClass (top 25) 6)) (defBody (inClass (top 25) 6)) (defScope (inClass (top 25) 6)) [.int 1] [] (He.ma K (He.ga K "Weight") "times") fd := Z.di 12 rfl
theorem Wd.d_Weight_is_below (Z : Wd K mg) : ∃ fd, FunD K "is_below" "Weight.is_below" (defArgs (inClass (top 25) 7)) (defBody (inClass (top 25) 7)) (defScope (inClass (top 25) 7)) [] [] (He.ma K (He.ga K "Weight") "is_below") fd := Z.di 13 rfl
theorem Wd.d_Weight_is_nought (Z : Wd K mg) : ∃ fd, FunD K "is_nought" "Weight.is_nought" (defArgs (inClass (top 25) 8)) (defBody (inClass (top 25) 8)) (defScope (inClass (top 25) 8)) [] [] (He.ma K (He.ga K "Weight") "is_nought") fd := Z.di 14 rfl
theorem Wd.d_Weight_whole_up (Z : Wd K mg) : ∃ fd, FunD K "whole_up" "Weight.whole_up" (defArgs (inClass (top 25) 9)) (defBody (inClass (top 25) 9)) (defScope (inClass (top 25) 9)) [] [] (He.ma K (He.ga K "Weight") "whole_up") fd := Z.di 15 rfl
theorem Wd.d_total (Z : Wd K mg) : ∃ fd, FunD K "total" "total" (defArgs (top 26)) (defBody (top 26)) (defScope (top 26)) [] [] (He.ga K "total") fd := Z.di 16 rfl
theorem Wd.d_is_part (Z : Wd K mg) : ∃ fd, FunD K "is_part" "is_part" (defArgs (top 29)) (defBody (top 29)) (defScope (top 29)) [] [] (He.ga K "is_part") fd := Z.di 17 rfl
theorem Wd.d_is_parts (Z : Wd K mg) : ∃ fd, FunD K "is_parts" "is_parts" (defArgs (top 30)) (defBody (top 30)) (defScope (top 30)) [] [] (He.ga K "is_parts") fd := Z.di 18 rfl
theorem Wd.d_Cask___init__ (Z : Wd K mg) : ∃ fd, FunD K "__init__" "Cask.__init__" (defArgs (inClass (top 31) 0)) (defBody (inClass (top 31) 0)) (defScope (inClass (top 31) 0)) [.non] [] (He.ma K (He.ga K "Cask") "__init__") fd := Z.di 19 rfl
theorem Wd.d_Cask___len__ (Z : Wd K mg) : ∃ fd, FunD K "__len__" "Cask.__len__" (defArgs (inClass (top 31) 2)) (defBody (inClass (top 31) 2)) (defScope (inClass (top 31) 2)) [] [] (He.ma K (He.ga K "Cask") "__len__") fd := Z.di 20 rfl
theorem Wd.d_Cask_part (Z : Wd K mg) : ∃ fd, FunD K "part" "Cask.part" (defArgs (inClass (top 31) 5)) (defBody (inClass (top 31) 5)) (defScope (inClass (top 31) 5)) [] [] (He.ma K (He.ga K "Cask") "part") fd := Z.di 21 rfl
theorem Wd.d_Cask_weight_of (Z : Wd K mg) : ∃ fd, FunD K "weight_of" "Cask.weight_of" (defArgs (inClass (top 31) 6)) (defBody (inClass (top 31) 6)) (defScope (inClass (top 31) 6)) [] [] (He.ma K (He.ga K "Cask") "weight_of") fd := Z.di 22 rfl
theorem Wd.d_Cask_lessened (Z : Wd K mg) : ∃ fd, FunD K "lessened" "Cask.lessened" (defArgs (inClass (top 31) 7)) (defBody (inClass (top 31) 7)) (defScope (inClass (top 31) 7)) [] [] (He.ma K (He.ga K "Cask") "lessened") fd := Z.di 23 rfl
theorem Wd.d_with_parts (Z : Wd K mg) : ∃ fd, FunD K "with_parts" "with_parts" (defArgs (top 32)) (defBody (top 32)) (defScope (top 32)) [] [] (He.ga K "with_parts") fd := Z.di 24 rfl
theorem Wd.d_casks_by_age (Z : Wd K mg) : ∃ fd, FunD K "casks_by_age" "casks_by_age" (defArgs (top 33)) (defBody (top 33)) (defScope (top 33)) [] [] (He.ga K "casks_by_age") fd := Z.di 25 rfl
theorem Wd.d_taking (Z : Wd K mg) : ∃ fd, FunD K "taking" "taking" (defArgs (top 35)) (defBody (top 35)) (defScope (top 35)) [] [] (He.ga K "taking") fd := Z.di 26 rfl
theorem Wd.d_is_taken (Z : Wd K mg) : ∃ fd, FunD K "is_taken" "is_taken" (defArgs (top 36)) (defBody (top 36)) (defScope (top 36)) [] [] (He.ga K "is_taken") fd := Z.di 27 rfl
theorem Wd.d_taking_holds (Z : Wd K mg) : ∃ fd, FunD K "taking_holds" "taking_holds" (defArgs (top 37)) (defBody (top 37)) (defScope (top 37)) [] [] (He.ga K "taking_holds") fd := Z.di 28 rfl
theorem Wd.d_Note___init__ (Z : Wd K mg) : ∃ fd, FunD K "__init__" "Note.__init__" (defArgs (inClass (top 39) 0)) (defBody (inClass (top 39) 0)) (defScope (inClass (top 39) 0)) [.int 0] [] (He.ma K (He.ga K "Note") "__init__") fd := Z.di 29 rfl
theorem Wd.d_age_of (Z : Wd K mg) : ∃ fd, FunD K "age_of" "age_of" (defArgs (top 41)) (defBody (top 41)) (defScope (top 41)) [] [] (He.ga K "age_of") fd := Z.di 30 rfl
theorem Wd.d_by_age (Z : Wd K mg) : ∃ fd, FunD K "by_age" "by_age" (defArgs (top 42)) (defBody (top 42)) (defScope (top 42)) [] [] (He.ga K "by_age") fd := Z.di 31 rfl
theorem Wd.d_grains_of (Z : Wd K mg) : ∃ fd, FunD K "grains_of" "grains_of" (defArgs (top 43)) (defBody (top 43)) (defScope (top 43)) [] [] (He.ga K "grains_of") fd := Z.di 32 rfl
theorem Wd.d_shares_of (Z : Wd K mg) : ∃ fd, FunD K "shares_of" "shares_of" (defArgs (top 45)) (defBody (top 45)) (defScope (top 45)) [] [] (He.ga K "shares_of") fd := Z.di 33 rfl
theorem Wd.d__law_deck (Z : Wd K mg) : ∃ fd, FunD K "_law_deck" "_law_deck" (defArgs (top 47)) (defBody (top 47)) (defScope (top 47)) [] [] (He.ga K "_law_deck") fd := Z.di 34 rfl
theorem Wd.d__law_draw (Z : Wd K mg) : ∃ fd, FunD K "_law_draw" "_law_draw" (defArgs (top 48)) (defBody (top 48)) (defScope (top 48)) [] [] (He.ga K "_law_draw") fd := Z.di 35 rfl
theorem Wd.d__law_names (Z : Wd K mg) : ∃ fd, FunD K "_law_names" "_law_names" (defArgs (top 49)) (defBody (top 49)) (defScope (top 49)) [] [] (He.ga K "_law_names") fd := Z.di 36 rfl
theorem Wd.d__law_sixteens (Z : Wd K mg) : ∃ fd, FunD K "_law_sixteens" "_law_sixteens" (defArgs (top 50)) (defBody (top 50)) (defScope (top 50)) [] [] (He.ga K "_law_sixteens") fd := Z.di 37 rfl
theorem Wd.d__law_marks (Z : Wd K mg) : ∃ fd, FunD K "_law_marks" "_law_marks" (defArgs (top 51)) (defBody (top 51)) (defScope (top 51)) [] [] (He.ga K "_law_marks") fd := Z.di 38 rfl
theorem Wd.d__law_lowest (Z : Wd K mg) : ∃ fd, FunD K "_law_lowest" "_law_lowest" (defArgs (top 52)) (defBody (top 52)) (defScope (top 52)) [] [] (He.ga K "_law_lowest") fd := Z.di 39 rfl
theorem Wd.d__law_weight (Z : Wd K mg) : ∃ fd, FunD K "_law_weight" "_law_weight" (defArgs (top 54)) (defBody (top 54)) (defScope (top 54)) [] [] (He.ga K "_law_weight") fd := Z.di 40 rfl
theorem Wd.d__law_day (Z : Wd K mg) : ∃ fd, FunD K "_law_day" "_law_day" (defArgs (top 55)) (defBody (top 55)) (defScope (top 55)) [] [] (He.ga K "_law_day") fd := Z.di 41 rfl
theorem Wd.d__law_casks (Z : Wd K mg) : ∃ fd, FunD K "_law_casks" "_law_casks" (defArgs (top 56)) (defBody (top 56)) (defScope (top 56)) [] [] (He.ga K "_law_casks") fd := Z.di 42 rfl
theorem Wd.d__law_made (Z : Wd K mg) : ∃ fd, FunD K "_law_made" "_law_made" (defArgs (top 57)) (defBody (top 57)) (defScope (top 57)) [] [] (He.ga K "_law_made") fd := Z.di 43 rfl
theorem Wd.d__law_notes (Z : Wd K mg) : ∃ fd, FunD K "_law_notes" "_law_notes" (defArgs (top 59)) (defBody (top 59)) (defScope (top 59)) [] [] (He.ga K "_law_notes") fd := Z.di 44 rfl
theorem Wd.d__law_note (Z : Wd K mg) : ∃ fd, FunD K "_law_note" "_law_note" (defArgs (top 60)) (defBody (top 60)) (defScope (top 60)) [] [] (He.ga K "_law_note") fd := Z.di 45 rfl
theorem Wd.d__law_told (Z : Wd K mg) : ∃ fd, FunD K "_law_told" "_law_told" (defArgs (top 62)) (defBody (top 62)) (defScope (top 62)) [] [] (He.ga K "_law_told") fd := Z.di 46 rfl
theorem Wd.d__law_behind (Z : Wd K mg) : ∃ fd, FunD K "_law_behind" "_law_behind" (defArgs (top 63)) (defBody (top 63)) (defScope (top 63)) [] [] (He.ga K "_law_behind") fd := Z.di 47 rfl
theorem Wd.d__law_added (Z : Wd K mg) : ∃ fd, FunD K "_law_added" "_law_added" (defArgs (top 64)) (defBody (top 64)) (defScope (top 64)) [] [] (He.ga K "_law_added") fd := Z.di 48 rfl
theorem Wd.d__law_twice_right (Z : Wd K mg) : ∃ fd, FunD K "_law_twice_right" "_law_twice_right" (defArgs (top 65)) (defBody (top 65)) (defScope (top 65)) [] [] (He.ga K "_law_twice_right") fd := Z.di 49 rfl
theorem Wd.d__law_shares_right (Z : Wd K mg) : ∃ fd, FunD K "_law_shares_right" "_law_shares_right" (defArgs (top 66)) (defBody (top 66)) (defScope (top 66)) [] [] (He.ga K "_law_shares_right") fd := Z.di 50 rfl
theorem Wd.d_law (Z : Wd K mg) : ∃ fd, FunD K "law" "law" (defArgs (top 67)) (defBody (top 67)) (defScope (top 67)) [] [] (He.ga K "law") fd := Z.di 51 rfl
end
/-! ### defs as they are called -/
section
variable {P : Program} {w : World} {K : PySem.W.Frag} {mg : Str → Option Value} {base : Heap}
/-- the body of a def keeps sp, at level k + 1 -/
def Body (P : Program) (w : World) (K : PySem.W.Frag) (mg : Str → Option Value) (base : Heap) (CX : CXT) (N : List Str) (k : Nat) (qual : Str) (st : Stmt) (f : Addr) (sp : Sp) : Prop :=
  ∀ (cdv : Value) (A : Around) (outer : List Env) (s : Shared) (H : Hp) (vs : List V) (Q : VK) (E : XK), Room k (A.deeper (envOfC qual (defScope st) s.heap.objs.size f cdv)) → sp vs H Q E →
      ∃ t, PSs (cxOf CX P w K mg base N qual (defScope st) f cdv A outer s H E) (defBody st) t ∧ t { nx := fun _ H' => Q .non H', rt := Q } (start N vs) H
def Len (n : Nat) (sp : Sp) : Prop := ∀ vs H Q E, sp vs H Q E → vs.length = n
/-- a def without defaults -/
theorem cal {x : Str} {st : Stmt} {N ps : List Str} {k : Nat} {sp : Sp} (F : ∃ fd, FunD K x x (defArgs st) (defBody st) (defScope st) [] [] (He.ga K x) fd) (g : mg x = some (.ref (He.ga K x)))
    (S : FnScope N ps (defScope st)) (len : Len ps.length sp)
    (b : ∀ (kV doc pm : Value) (an : Option Addr) (cdv ct : Value) (us : List Value), us.length = ps.length → bindArgs (PySem.W.fnOf x x (defArgs st) (defBody st) (defScope st) .none kV doc pm an cdv ct) ⟨us, []⟩ = pure (ps.zip us))
    (h : Body P w K mg base C8.CX0 N k x st (He.ga K x) sp) : C8.Cal P w K mg base (k + 1) x sp [] := by
  obtain ⟨fd, F⟩ := F
  exact ⟨He.ga K x, fd, ps, [], F.ok S len h, g, F.kp, F.bindsN b, .nil⟩
/-- a method without defaults -/
theorem met {C m : Str} {qual : Str} {st : Stmt} {N ps : List Str} {k : Nat} {sp : Sp} (F : ∃ fd, FunD K m qual (defArgs st) (defBody st) (defScope st) [] [] (He.ma K (He.ga K C) m) fd) (c : Cls K (He.ga K C)) (me : Meth K (He.ga K C) m (He.ma K (He.ga K C) m))
    (S : FnScope N ps (defScope st)) (len : Len ps.length sp)
    (b : ∀ (kV doc pm : Value) (an : Option Addr) (cdv ct : Value) (us : List Value), us.length = ps.length → bindArgs (PySem.W.fnOf m qual (defArgs st) (defBody st) (defScope st) .none kV doc pm an cdv ct) ⟨us, []⟩ = pure (ps.zip us))
    (h : Body P w K mg base C8.CX0 N k qual st (He.ma K (He.ga K C) m) sp) : C8.Met P w K mg base (k + 1) (He.ga K C) m sp [] := by
  obtain ⟨fd, F⟩ := F
  exact ⟨He.ma K (He.ga K C) m, fd, ps, [], c, me, F.ok S len h, F.bindsN b, .nil⟩
theorem z1 {α β : Type} {f : List α → β} {us : List α} (h : us.length = 1) (k : ∀ a, f us = f [a] → True) : ∃ a, us = [a] := by
  match us, h with
  | [a], _ => exact ⟨a, rfl⟩
end
end K34
namespace K34
/-- what Weight(t, b) holds -/
theorem num_mk (t : Int) (b : Int) (hb : 0 < b) : (Rat.divInt t b).num = t / (Int.gcd t b : Int) ∧ ((Rat.divInt t b).den : Int) = b / (Int.gcd t b : Int) := by
  obtain ⟨n, rfl⟩ := Int.eq_ofNat_of_zero_le (Int.le_of_lt hb)
  have hn : n ≠ 0 := by omega
  have e : Rat.divInt t (n : Int) = Rat.normalize t n hn := by
    rw [Rat.divInt_ofNat, Rat.normalize_eq_mkRat hn]
  rw [e, Rat.normalize_eq]
  constructor
  · rfl
  · show ((n / t.natAbs.gcd n : Nat) : Int) = _
    rw [Int.natCast_ediv]
    rfl
/-- sizes -/
def Sz (n : Nat) (q : Rat) : Prop := q.num.natAbs < 2 ^ n ∧ q.den < 2 ^ n
theorem Sz.mono {n m : Nat} {q : Rat} (h : Sz n q) (hm : n ≤ m) : Sz m q := ⟨Nat.lt_of_lt_of_le h.1 (Nat.pow_le_pow_right (by decide) hm), Nat.lt_of_lt_of_le h.2 (Nat.pow_le_pow_right (by decide) hm)⟩
theorem Sz.mk {n : Nat} {t b : Int} (hb : 0 < b) (h1 : t.natAbs < 2 ^ n) (h2 : b.natAbs < 2 ^ n) : Sz n (Rat.divInt t b) := by
  obtain ⟨e1, e2⟩ := num_mk t b hb
  have hg : 0 < (Int.gcd t b : Int) := by
    have := Int.gcd_pos_of_ne_zero_right t (show b ≠ 0 by omega)
    omega
  constructor
  · rw [e1]
    refine Nat.lt_of_le_of_lt ?_ h1
    exact Int.natAbs_ediv_le_natAbs _ _
  · have : (Rat.divInt t b).den = (b / (Int.gcd t b : Int)).natAbs := by omega
    rw [this]
    exact Nat.lt_of_le_of_lt (Int.natAbs_ediv_le_natAbs _ _) h2
theorem add_val (q r : Rat) : Rat.divInt (q.num * r.den + r.num * q.den) (q.den * r.den) = q + r := by
  have h1 : (q.den : Int) ≠ 0 := by have := q.den_pos; omega
  have h2 : (r.den : Int) ≠ 0 := by have := r.den_pos; omega
  have := Rat.divInt_add_divInt q.num r.num h1 h2
  rw [Rat.num_divInt_den, Rat.num_divInt_den] at this
  exact this.symm
theorem sub_val (q r : Rat) : Rat.divInt (q.num * r.den - r.num * q.den) (q.den * r.den) = q - r := by
  have h1 : (q.den : Int) ≠ 0 := by have := q.den_pos; omega
  have h2 : (r.den : Int) ≠ 0 := by have := r.den_pos; omega
  have := Rat.divInt_sub_divInt q.num r.num h1 h2
  rw [Rat.num_divInt_den, Rat.num_divInt_den] at this
  exact this.symm
theorem mul_val (q : Rat) (t b : Int) (hb : b ≠ 0) : Rat.divInt (q.num * t) (q.den * b) = q * t / b := by
  have h1 : (q.den : Int) ≠ 0 := by have := q.den_pos; omega
  have e : q = (q.num : Rat) / (q.den : Int) := by
    have := Rat.num_divInt_den q
    rw [Rat.divInt_eq_div] at this
    exact this.symm
  rw [Rat.divInt_eq_div]
  have h3 : ((q.den : Int) : Rat) ≠ 0 := by
    intro z
    exact h1 (Rat.intCast_eq_zero_iff.mp z)
  have h4 : (b : Rat) ≠ 0 := by
    intro z
    exact hb (Rat.intCast_eq_zero_iff.mp z)
  generalize q.num = n at *
  generalize (q.den : Int) = d at *
  rw [Rat.intCast_mul, Rat.intCast_mul]
  grind
theorem Sz.add {n m : Nat} {q r : Rat} (h : Sz n q) (g : Sz m r) : (q.num * r.den + r.num * q.den).natAbs < 2 ^ (n + m + 1) ∧ ((q.den : Int) * r.den).natAbs < 2 ^ (n + m) ∧ Sz (n + m + 1) (q + r) := by
  obtain ⟨h1, h2⟩ := h
  obtain ⟨g1, g2⟩ := g
  have e1 : (q.num * r.den).natAbs < 2 ^ (n + m) := by
    rw [Int.natAbs_mul, Nat.pow_add]
    exact Nat.mul_lt_mul'' h1 g2
  have e2 : (r.num * q.den).natAbs < 2 ^ (n + m) := by
    rw [Int.natAbs_mul, Nat.add_comm, Nat.pow_add]
    exact Nat.mul_lt_mul'' g1 h2
  have e3 : ((q.den : Int) * r.den).natAbs < 2 ^ (n + m) := by
    rw [Int.natAbs_mul, Nat.pow_add]
    exact Nat.mul_lt_mul'' h2 g2
  have e4 : (q.num * r.den + r.num * q.den).natAbs < 2 ^ (n + m + 1) := by
    have := Int.natAbs_add_le (q.num * r.den) (r.num * q.den)
    rw [Nat.pow_succ]
    omega
  refine ⟨e4, e3, ?_⟩
  rw [← add_val]
  have p1 := q.den_pos
  have p2 := r.den_pos
  refine Sz.mk (Int.mul_pos (by omega) (by omega)) e4 (Nat.lt_of_lt_of_le e3 (Nat.pow_le_pow_right (by decide) (by omega)))
theorem Sz.sub {n m : Nat} {q r : Rat} (h : Sz n q) (g : Sz m r) : (q.num * r.den - r.num * q.den).natAbs < 2 ^ (n + m + 1) ∧ ((q.den : Int) * r.den).natAbs < 2 ^ (n + m) ∧ Sz (n + m + 1) (q - r) := by
  have g' : Sz m (-r) := ⟨by rw [Rat.neg_num, Int.natAbs_neg]; exact g.1, by rw [Rat.neg_den]; exact g.2⟩
  obtain ⟨h1, h2, h3⟩ := h.add g'
  rw [Rat.neg_num, Rat.neg_den] at h1
  rw [Rat.neg_den] at h2
  rw [← Rat.sub_eq_add_neg] at h3
  refine ⟨?_, h2, h3⟩
  rw [Int.sub_eq_add_neg, ← Int.neg_mul]
  exact h1
theorem Sz.mul {n a c : Nat} {q : Rat} {t b : Int} (h : Sz n q) (ht : t.natAbs < 2 ^ a) (hb : b.natAbs < 2 ^ c) (b0 : 0 < b) : (q.num * t).natAbs < 2 ^ (n + a) ∧ ((q.den : Int) * b).natAbs < 2 ^ (n + c) ∧ Sz (n + a + c) (q * t / b) := by
  have e1 : (q.num * t).natAbs < 2 ^ (n + a) := by
    rw [Int.natAbs_mul, Nat.pow_add]
    exact Nat.mul_lt_mul'' h.1 ht
  have e2 : ((q.den : Int) * b).natAbs < 2 ^ (n + c) := by
    rw [Int.natAbs_mul, Nat.pow_add]
    exact Nat.mul_lt_mul'' h.2 hb
  refine ⟨e1, e2, ?_⟩
  rw [← mul_val q t b (by omega)]
  have p1 := q.den_pos
  exact Sz.mk (Int.mul_pos (by omega) b0) (Nat.lt_of_lt_of_le e1 (Nat.pow_le_pow_right (by decide) (by omega))) (Nat.lt_of_lt_of_le e2 (Nat.pow_le_pow_right (by decide) (by omega)))
theorem num_nn {q : Rat} (h : 0 ≤ q) : 0 ≤ q.num := Rat.num_nonneg.mpr h
theorem lt_num (q r : Rat) : decide (q.num * r.den < r.num * q.den) = decide (q < r) := by
  rw [decide_eq_decide]
  exact (Rat.lt_iff q r).symm
theorem zero_num (q : Rat) : decide (q.num = 0) = decide (q = 0) := by
  rw [decide_eq_decide]
  exact Rat.num_eq_zero
theorem le_num {q r : Rat} (h : r ≤ q) : 0 ≤ q.num * r.den - r.num * q.den := by
  have := (Rat.le_iff r q).mp h
  omega
theorem int_val (n : Int) : Rat.divInt n 1 = n := by
  rw [Rat.divInt_eq_div]
  grind
/-! ### sums -/
theorem sum_snoc (l : List Rat) (q : Rat) : (l ++ [q]).sum = l.sum + q := by
  induction l with
  | nil =>
    rw [List.nil_append, List.sum_cons, List.sum_nil, Rat.add_comm]
  | cons a l ih => rw [List.cons_append, List.sum_cons, List.sum_cons, ih, Rat.add_assoc]
theorem sum_nn {l : List Rat} (h : ∀ q ∈ l, 0 ≤ q) : 0 ≤ l.sum := by
  induction l with
  | nil => exact Rat.le_refl
  | cons a l ih =>
    rw [List.sum_cons]
    have h1 := h a List.mem_cons_self
    have h2 := ih fun q hq => h q (List.mem_cons_of_mem _ hq)
    grind
theorem Sz.zero : Sz 1 0 := ⟨by decide, by decide⟩
theorem sum_sz {n : Nat} (h0 : 0 < n) {l : List Rat} (h : ∀ q ∈ l, Sz n q) : Sz (l.length * (n + 1) + 1) l.sum := by
  induction l with
  | nil =>
    refine Sz.mono (n := 1) Sz.zero ?_
    omega
  | cons a l ih =>
    rw [List.sum_cons]
    have h1 := h a List.mem_cons_self
    have h2 := ih fun q hq => h q (List.mem_cons_of_mem _ hq)
    refine (h1.add h2).2.2.mono ?_
    rw [List.length_cons, Nat.add_mul]
    omega
theorem sum_take_succ {l : List Rat} {i : Nat} {q : Rat} (h : l[i]? = some q) : (l.take (i + 1)).sum = (l.take i).sum + q := by
  rw [List.take_add_one, h]
  exact sum_snoc _ _
theorem sum_app (l m : List Rat) : (l ++ m).sum = l.sum + m.sum := by
  induction l with
  | nil =>
    rw [List.nil_append, List.sum_nil]
    grind
  | cons a l ih => rw [List.cons_append, List.sum_cons, List.sum_cons, ih, Rat.add_assoc]
theorem take_sub {α : Type} {l : List α} {i : Nat} {P : α → Prop} (h : ∀ q ∈ l, P q) : ∀ q ∈ l.take i, P q := fun q hq => h q (List.mem_of_mem_take hq)
end K34
set_option Elab.async false
set_option linter.all false
set_option maxRecDepth 100000
set_option maxHeartbeats 2000000
/-! K34Dict: dicts whose keys are texts or None, as things of our own; exact tuples. -/
namespace K34
open PySem PySem.Spec PyProof.Rows L2
/-! ### keys: a text or None -/
def oL : Option Str → Leaf
  | none => .none
  | some x => .text x
theorem oL_inj {a b : Option Str} (h : oL a = oL b) : a = b := by
  cases a <;> cases b <;> simp_all [oL]
theorem oL_dec (a b : Option Str) : decide (oL a = oL b) = decide (a = b) := by
  by_cases h : a = b
  · rw [decide_eq_true h, decide_eq_true (congrArg oL h)]
  · rw [decide_eq_false h, decide_eq_false fun z => h (oL_inj z)]
def oKd (P : Program) (w : World) : PySem.KeyKind P w (Option Str) where
  is := fun k v => (leafKind P w).is (oL k) v
  hash := fun k => (leafKind P w).hash (oL k)
  inj := fun v _ _ ha hb => oL_inj ((leafKind P w).inj v _ _ ha hb)
  byValue := fun k v h => (leafKind P w).byValue (oL k) v h
  pyHash := fun hv h => (leafKind P w).pyHash hv h
  eqBool := fun {A E s a b u v Q} hu hv h => (leafKind P w).eqBool hu hv (by rw [oL_dec a b]; exact h)
  «strs» := fun k x t v h => (leafKind P w).strs (oL k) x t v h
/-- a key as a value -/
def oV : Option Str → V
  | none => .non
  | some x => .str x
theorem oV_inj {a b : Option Str} (h : oV a = oV b) : a = b := by
  cases a <;> cases b <;> simp_all [oV]
theorem oV_is {P : Program} {w : World} : ∀ {k : Option Str} {u : Value}, RelV (oV k) u → (oKd P w).is k u = true
  | none, u, r => by
    obtain rfl : u = Value.none := r
    rfl
  | some x, u, r => by
    obtain ⟨t, rfl⟩ : ∃ t, u = Value.str x t := r
    show Value.isStrOf x (.str x t) = true
    simp [Value.isStrOf]
theorem oV_of {P : Program} {w : World} : ∀ {k : Option Str} {u : Value}, (oKd P w).is k u = true → RelV (oV k) u
  | none, u, h => by
    have h' : Leaf.isOf .none u = true := h
    cases u <;> first
      | rfl
      | exact absurd h' Bool.false_ne_true
  | some x, u, h => by
    obtain ⟨t, e⟩ := Value.isStrOf_shape (show Value.isStrOf x u = true from h)
    exact ⟨t, e⟩
/-- at a: a dict with these keys and values, in this order -/
def dO (P : Program) (w : World) (a : Addr) (kvs : List (Option Str × V)) : HO := .ext fun h => kvs.length ≤ sizeLine ∧ (a == sysModules) = false ∧ ∃ vs, KV kvs vs ∧ h.DictOf (oKd P w) a vs
/-- at a: a tuple, its object told to the letter -/
def tE (a : Addr) (xs : List V) : HO := .ext fun h => xs.length ≤ sizeLine ∧ ∃ its : List Value, Vals xs its ∧ h.get? a = some { cls := .type "tuple", data := .seq its.toArray }
section
variable {P : Program} {w : World} {H : Hp} {h : Heap} {a : Addr} {kvs : List (Option Str × V)} {xs : List V}
theorem dO_ok {vs : List (Option Str × Value)} (z : kvs.length ≤ sizeLine) (s : (a == sysModules) = false) (r : KV kvs vs) (d : h.DictOf (oKd P w) a vs) : ObjOk P w H h a (dO P w a kvs) := by
  obtain ⟨o, es, ep, ho, q⟩ := d
  refine ⟨⟨z, s, vs, r, o, es, ep, ho, q⟩, ⟨o, ho⟩, fun h1 h2 x k => ?_⟩
  obtain ⟨z, s, vs, r, o, es, ep, ho, q⟩ := x
  exact ⟨z, s, vs, r, o, es, ep, k o ho, q⟩
theorem dO_at (ok : HOk P w H h) (e : Rd H a (dO P w a kvs)) : kvs.length ≤ sizeLine ∧ (a == sysModules) = false ∧ ∃ vs, KV kvs vs ∧ h.DictOf (oKd P w) a vs := by
  have x : ObjOk P w H h a (.ext fun h => kvs.length ≤ sizeLine ∧ (a == sysModules) = false ∧ ∃ vs, KV kvs vs ∧ h.DictOf (oKd P w) a vs) := e.ok ok
  exact x.1
theorem tE_ok {its : List Value} (z : xs.length ≤ sizeLine) (r : Vals xs its) (e : h.get? a = some { cls := .type "tuple", data := .seq its.toArray }) : ObjOk P w H h a (tE a xs) :=
  ⟨⟨z, its, r, e⟩, ⟨_, e⟩, fun h1 h2 x k => by
    obtain ⟨z, its, r, e⟩ := x
    exact ⟨z, its, r, k _ e⟩⟩
theorem tE_at (ok : HOk P w H h) (e : H a = some (tE a xs)) : xs.length ≤ sizeLine ∧ ∃ its : List Value, Vals xs its ∧ h.get? a = some { cls := .type "tuple", data := .seq its.toArray } := by
  have x : ObjOk P w H h a (.ext fun h => xs.length ≤ sizeLine ∧ ∃ its : List Value, Vals xs its ∧ h.get? a = some { cls := .type "tuple", data := .seq its.toArray }) := ok a _ e
  exact x.1
end
/-! ### exact tuples made -/
section
variable {X : Cx} {es : List Expr} {t : TA} {pos : Pos}
def tTupE (t : TA) : TE := fun σ H Q => t σ H fun xs H1 => xs.length ≤ sizeLine ∧ ∀ p, H1 p = none → Q (.ref p) (upd H1 p (tE p xs))
theorem pe_tupE {k : Nat} (h : PA X es t) : PE X (.Tuple es k pos) (tTupE t) := by
  refine ⟨fun pins s σ H Q I hq => wpAny_Tuple_spliced (thn (h.run pos pins s σ H _ I hq) fun us s1 ⟨xs, H1, I1, r, z, q⟩ => ⟨r.length ▸ z, ?_⟩)⟩
  exact ⟨.ref s1.heap.objs.size, upd H1 s1.heap.objs.size (tE s1.heap.objs.size xs), I1.laid (t' := s1.toks) (fun b u e => Heap.get?_push_of_some _ e) (Nat.le_refl _) (tE_ok z r (Heap.get?_push_size _ rfl)), rfl, q _ (I1.hok.fresh (Nat.le_refl _))⟩
/-- tuple(a list) -/
theorem cr_tupE : CallR X (.type "tuple") (fun xs H Q => ∃ p ys, xs = [.ref p] ∧ SqL X.K H p ys ∧ ∀ l, H l = none → Q (.ref l) (upd H l (tE l ys))) := by
  intro pins s σ H xs us Q I r ⟨p, ys, ex, hq, q⟩
  subst ex
  obtain ⟨u, rfl, rx⟩ := vals1 r
  obtain rfl : u = Value.ref p := rx
  obtain ⟨its, r', pl, hz⟩ := I.list hq
  refine call_tuple_list pl.isList (fun h' kp => ?_) (by have := r'.length; simp only [List.size_toArray]; omega)
  have I1 : Inv X pins σ H { s with heap := h' } := I.kept (t' := s.toks) kp
  exact ⟨.ref h'.objs.size, _, I1.laid (t' := s.toks) (o := tE h'.objs.size ys) (fun b o e => Heap.get?_push_of_some _ e) (Nat.le_refl _) (tE_ok hz r' (Heap.get?_push_size _ rfl)), rfl, q _ (I1.hok.fresh (Nat.le_refl _))⟩
end
/-! ### dict(a tuple of pairs) -/
theorem merged_new {κ : Type} [DecidableEq κ] : ∀ (more acc : List (κ × Value)), ((acc ++ more).map (·.1)).Nodup → merged acc more = acc ++ more
  | [], acc, _ => by
    rw [List.append_nil]
    rfl
  | kv :: r, acc, h => by
    have e0 : stored acc kv.1 kv.2 = acc ++ [kv] := by
      unfold stored
      rw [if_neg]
      intro z
      obtain ⟨q, hq, e⟩ := List.any_eq_true.mp z
      rw [List.map_append, List.map_cons] at h
      exact (List.nodup_append.mp h).2.2 q.1 (List.mem_map.mpr ⟨q, hq, rfl⟩) kv.1 List.mem_cons_self (of_decide_eq_true e)
    show merged (stored acc kv.1 kv.2) r = acc ++ kv :: r
    rw [e0, merged_new r (acc ++ [kv]) (by rw [List.append_assoc]; exact h), List.append_assoc]
    rfl
section
variable {X : Cx} {pins : List (Addr × Obj)} {σ : L2.St} {H : Hp} {s : Shared}
theorem prs_of (I : Inv X pins σ H s) : ∀ {ts : List Addr} {kvs : List (Option Str × V)}, Paired (fun t kv => SqT X.K H t [oV kv.1, kv.2]) ts kvs →
    ∃ (vs : List (Option Str × Value)) (ps : List (Value × Value)), KV kvs vs ∧ vs.length = ts.length ∧ ps.length = ts.length ∧
      (∀ (j : Nat) (k v : Value), ps[j]? = some (k, v) → ∃ t, ts[j]? = some t ∧ PairAt s.heap t k v) ∧ ∀ (j : Nat) (k v : Value), ps[j]? = some (k, v) → ∃ y, vs[j]? = some (y, v) ∧ (oKd X.prog X.w).is y k = true
  | _, _, .nil => ⟨[], [], .nil, rfl, rfl, fun j k v e => by simp at e, fun j k v e => by simp at e⟩
  | _, _, .cons (a := t) (b := kv) h r => by
    obtain ⟨vs, ps, kr, l1, l2, hp, hk⟩ := prs_of I r
    obtain ⟨its, rv, ht, _⟩ := I.tuple h
    obtain ⟨u, y, rfl, ru, ry⟩ := vals2 rv
    refine ⟨(kv.1, y) :: vs, (u, y) :: ps, .cons ⟨rfl, ry⟩ kr, by simp [l1], by simp [l2], fun j k v e => ?_, fun j k v e => ?_⟩
    · cases j with
      | zero =>
        have e' := Option.some.inj e
        cases e'
        exact ⟨t, rfl, .inl ht⟩
      | succ j =>
        obtain ⟨t', a, b⟩ := hp j k v (by simpa using e)
        exact ⟨t', by simpa using a, b⟩
    · cases j with
      | zero =>
        have e' := Option.some.inj e
        cases e'
        exact ⟨kv.1, rfl, oV_is ru⟩
      | succ j =>
        obtain ⟨z, a, b⟩ := hk j k v (by simpa using e)
        exact ⟨z, by simpa using a, b⟩
theorem refs_eq : ∀ {ts : List Addr} {us : List Value}, Vals (ts.map V.ref) us → us = ts.map Value.ref
  | [], _, .nil => rfl
  | t :: ts, _, .cons h r => by
    obtain rfl := h
    rw [List.map_cons, ← refs_eq r]
end
theorem cr_dictT {X : Cx} (hc : X.calm = true) : CallR X (.type "dict") (fun xs H Q => ∃ (a : Addr) (ts : List Addr) (kvs : List (Option Str × V)), xs = [.ref a] ∧ H a = some (tE a (ts.map V.ref)) ∧ Paired (fun t kv => SqT X.K H t [oV kv.1, kv.2]) ts kvs ∧
    (kvs.map (·.1)).Nodup ∧ ∀ p, H p = none → Q (.ref p) (upd H p (dO X.prog X.w p kvs))) := by
  intro pins s σ H xs us Q I r ⟨a, ts, kvs, ex, ha, hp, nd, q⟩
  subst ex
  obtain ⟨u, rfl, rx⟩ := vals1 r
  obtain rfl : u = Value.ref a := rx
  obtain ⟨hz, its, rv, ho⟩ := tE_at I.hok ha
  obtain rfl := refs_eq rv
  obtain ⟨vs, ps, kr, l1, l2, h1, h2⟩ := prs_of I hp
  have lk : kvs.length = vs.length := Paired.length kr
  rw [List.length_map] at hz
  have nd' : (vs.map (·.1)).Nodup := by
    have : kvs.map (·.1) = vs.map (·.1) := KV.keys kr
    rw [← this]
    exact nd
  refine call_dict_pairs (knd := oKd X.prog X.w) (kvs := vs) (PairArg.tuple a (ts.map Value.ref).toArray (fun j => ts.getD j 0) ps) (I.ok.hd hc) ⟨⟨_, _, ho, rfl, rfl, rfl⟩, by simp [l2], fun j k v e => ?_⟩ ⟨by rw [l1, l2], fun i k v e => ?_⟩ (by rw [l2]; exact hz) fun h' tk hd k => ?_
  · obtain ⟨t, a1, a2⟩ := h1 j k v e
    have e2 : ts.getD j 0 = t := by simp [List.getD, a1]
    show (ts.map Value.ref).toArray[j]? = some (.ref (ts.getD j 0)) ∧ PairAt s.heap (ts.getD j 0) k v
    rw [e2]
    exact ⟨by simp [a1], a2⟩
  · exact h2 i k v e
  · rw [merged_new vs [] (by simpa using nd')] at hd
    have hm : (s.heap.objs.size == sysModules) = false := beq_eq_false_iff_ne.mpr (Nat.ne_of_gt I.big)
    exact ⟨.ref s.heap.objs.size, _, I.laid (t' := tk) (o := dO X.prog X.w s.heap.objs.size kvs) (fun b o e => k b o (by simp) e) (Nat.le_refl _) (dO_ok (by rw [lk, l1]; exact hz) hm kr (by simpa using hd)), rfl, q _ (I.hok.fresh (Nat.le_refl _))⟩

/-! ### dict(d), d[k], k in d, d.get(k, x), d[k] = v -/
/-- what stands at a under k -/
def oG (X : Cx) (H : Hp) (a : Addr) (y : V) (r : Option V) : Prop := ∃ kvs k, Rd H a (dO X.prog X.w a kvs) ∧ y = oV k ∧ valV kvs k = r
section
variable {X : Cx} {pins : List (Addr × Obj)} {σ : L2.St} {H : Hp} {s : Shared} {a : Addr} {y : V} {u : Value} {r : Option V}
theorem cr_dictD : CallR X (.type "dict") (fun xs H Q => ∃ (a : Addr) (kvs : List (Option Str × V)), xs = [.ref a] ∧ Rd H a (dO X.prog X.w a kvs) ∧ ∀ p, H p = none → Q (.ref p) (upd H p (dO X.prog X.w p kvs))) := by
  intro pins s σ H xs us Q I r ⟨a, kvs, ex, ha, q⟩
  subst ex
  obtain ⟨u, rfl, rx⟩ := vals1 r
  obtain rfl : u = Value.ref a := rx
  obtain ⟨z, hd, vs, kr, dd⟩ := dO_at I.hok ha
  refine kt_call_dict hd dd (by rw [← Paired.length kr]; exact z) fun h' dd' hs => ?_
  have hm : (s.heap.objs.size == sysModules) = false := beq_eq_false_iff_ne.mpr (Nat.ne_of_gt I.big)
  exact ⟨.ref s.heap.objs.size, _, I.laid (t' := s.toks) (o := dO X.prog X.w s.heap.objs.size kvs) (fun b o e => (hs.2 b (Nat.ne_of_lt (Heap.lt_size e))).trans (Heap.get?_push_of_some _ e)) (Nat.le_refl _) (dO_ok z hm kr dd'), rfl, q _ (I.hok.fresh (Nat.le_refl _))⟩
theorem oG_type (I : Inv X pins σ H s) (g : oG X H a y r) : s.TypeIs (.ref a) "dict" ∧ ∀ b, Value.ref a = .ref b → ∃ ob, s.heap.get? b = some ob ∧ ob.dict = none := by
  obtain ⟨kvs, k, e, _, _⟩ := g
  obtain ⟨_, _, vs, _, dd⟩ := dO_at I.hok e
  refine ⟨dd.typeIs, fun b q => ?_⟩
  cases q
  obtain ⟨ob, _, _, h1, h2, _⟩ := dd
  exact ⟨ob, h1, h2.2.1⟩
def tOget (X : Cx) (td ty : TE) : TE := fun σ H Q => td σ H fun x H1 => ty σ H1 fun y H2 => ∃ a v, x = .ref a ∧ oG X H2 a y (some v) ∧ Q v H2
def tOin (X : Cx) (ty td : TE) : TE := fun σ H Q => ty σ H fun y H1 => td σ H1 fun x H2 => ∃ a o, x = .ref a ∧ oG X H2 a y o ∧ Q (.bl o.isSome) H2
def tOget2 (X : Cx) (td ty tx : TE) : TE := fun σ H Q => td σ H fun x H1 => ∃ a, x = .ref a ∧ (∃ kvs, Rd H1 a (dO X.prog X.w a kvs)) ∧ ty σ H1 fun y H2 => tx σ H2 fun z H3 => ∃ o, oG X H3 a y o ∧ Q (o.getD z) H3
def sOput (X : Cx) (td ty tv : TE) : TS := fun D σ H => tv σ H fun v H1 => td σ H1 fun x H2 => ty σ H2 fun y H3 => ∃ a kvs k, x = .ref a ∧ H3 a = some (dO X.prog X.w a kvs) ∧ y = oV k ∧ kvs.length < sizeLine ∧ D.nx σ (upd H3 a (dO X.prog X.w a (putK kvs k v)))
variable {o i e f value : Expr} {pos pos' apos cpos : Pos} {td ty tv tx : TE}
theorem pe_oget (ho : PE X o td) (hi : PE X i ty) (hs : NoSl i) : PE X (.Subscript o i pos) (tOget X td ty) := by
  refine ⟨fun pins s σ H Q I h => subD_of PySem.F.slot_dict_getitem.lookup hs (thn (ho.run pins s σ H _ I h) fun u s1 ⟨x, H1, I1, rx, q1⟩ => thn (hi.run pins s1 σ H1 _ I1 q1) fun iv s2 ⟨y, H2, I2, ry, a, v, ex, g, q2⟩ => ?_)⟩
  subst ex
  obtain rfl : u = Value.ref a := rx
  refine ⟨(oG_type I2 g).1, ?_⟩
  obtain ⟨kvs, k, e, ey, l⟩ := g
  subst ey
  obtain ⟨_, _, vs, kr, dd⟩ := dO_at I2.hok e
  obtain ⟨w', hw, rw'⟩ := RelO.some_of (v := v) (o := valueAt vs k) (by rw [← l]; exact KV.val kr k)
  exact wpAny_getItem_of (oV_is ry) dd.mapOf hw ⟨v, H2, I2.tok _, rw', q2⟩
theorem pc_oin (hi : PE X i ty) (ho : PE X o td) : PC X .In i o (tOin X ty td) := by
  refine ⟨fun pins s σ H Q I h => thn (hi.run pins s σ H _ I h) fun iv s1 ⟨y, H1, I1, ry, q1⟩ => thn (ho.run pins s1 σ H1 _ I1 q1) fun u s2 ⟨x, H2, I2, rx, a, ov, ex, g, q2⟩ => ?_⟩
  subst ex
  obtain rfl : u = Value.ref a := rx
  obtain ⟨kvs, k, e, ey, l⟩ := g
  subst ey
  obtain ⟨_, hd, vs, kr, dd⟩ := dO_at I2.hok e
  refine wpAny_in_of (oV_is ry) hd dd.mapOf ⟨.bl ov.isSome, H2, I2.tok _, ?_, q2⟩
  rw [← (KV.val kr k).isSome_eq, l]
  rfl
theorem ps_oput (ho : PE X o td) (hi : PE X i ty) (hv : PE X value tv) (hs : swapsWith value (some (.Subscript o i pos')) pos.line X.env = pure false) : PS X (.Assign [.Subscript o i pos'] value pos) (sOput X td ty tv) := by
  refine ⟨fun pins s σ H D I h => wpAny_Assign_Subscript (thn (hv.run pins s σ H _ I h) fun r s1 ⟨v, H1, I1, rv, q1⟩ => thn (ho.run pins s1 σ H1 _ I1 q1) fun u s2 ⟨x, H2, I2, rx, q2⟩ => thn (hi.run pins s2 σ H2 _ I2 q2) fun iv s3 ⟨y, H3, I3, ry, a, kvs, k, ex, ea, ey, hl, q3⟩ => ?_) hs⟩
  subst ex ey
  obtain rfl : u = Value.ref a := rx
  obtain ⟨z, hd, vs, kr, dd⟩ := dO_at I3.hok (.inl ea)
  have hz : vs.length ≤ sizeLine := by rw [← Paired.length kr]; exact z
  refine wpAny_setItem_pairs (hsz := hz) (oV_is ry) dd fun h' dd' sb => ⟨σ, _, ?_, q3⟩
  have hx : ∃ q, h'.get? a = some q := let ⟨q, _, _, hq, _⟩ := dd'; ⟨q, hq⟩
  have hl' : (putK kvs k v).length ≤ sizeLine := by have := length_putK kvs k v; omega
  exact I3.write (x := a) (e := a) (o := dO X.prog X.w a (putK kvs k v)) (by rw [ea]; exact True.intro) (.inl rfl) (fun b q hb z => (sb.2 b hb).trans z) hx (dO_ok hl' hd (KV.put kr k rv) dd')
theorem pe_oget2 (ho : PE X o td) (he : PE X e ty) (hf : PE X f tx) (m : M2 X o "get" apos e f cpos) : PE X (.Call (.Attribute o "get" apos) [e, f] [] cpos) (tOget2 X td ty tx) := by
  refine ⟨fun pins s σ H Q I h => wpAny_Call_method m.base m.few m.line PySem.F.plainAttrs_dict PySem.F.slot_dict_get PySem.F.type_dict_get (thn (ho.run pins s σ H _ I h) fun u s1 ⟨x, H1, I1, rx, a, ex, d, q1⟩ => ?_)⟩
  subst ex
  obtain rfl : u = Value.ref a := rx
  obtain ⟨kv0, d⟩ := d
  obtain ⟨t1, t2⟩ := oG_type (y := .non) (r := valV kv0 none) I1 ⟨kv0, none, d, rfl, rfl⟩
  refine ⟨t1, t2, ?_⟩
  rw [m.trees]
  refine Calls.callWith_builtin rfl (Calls.evalArgs_plain (Calls.spliced_cons (thn (he.run pins s1 σ H1 _ I1 q1) fun iv s2 ⟨y, H2, I2, ry, q2⟩ => Calls.spliced_cons (thn (hf.run pins s2 σ H2 _ I2 q2) fun fv s3 ⟨z, H3, I3, rz, ov, g, q3⟩ => Calls.spliced_nil ?_))))
  obtain ⟨kvs, k, e, ey, l⟩ := g
  subst ey
  obtain ⟨_, hd, vs, kr, dd⟩ := dO_at I3.hok e
  refine call_meetsIn PySem.F.slot_dict_get dd.typeIs PySem.F.entry_dict_get (PySem.F.args_dict_get_3 _ _ _) (meets_dict_get_default (oKd X.prog X.w) a (oV_is ry) hd fv) ⟨_, dd.mapOf, ⟨_, H3, I3.tok _, ?_, q3⟩⟩
  rw [← l]
  exact (KV.val kr k).getD rz
end
end K34
set_option Elab.async false
set_option linter.all false
set_option maxRecDepth 100000
set_option maxHeartbeats 2000000
/-! K34Dict2: the walk over such a dict's keys; list(d.items()); == by the values' own ==. -/
namespace K34
open PySem PySem.Spec PyProof.Rows L2
/-- the keys, one a turn, of a locked dict -/
def ItO (P : Program) (w : World) (d : Addr) (o : Obj) (kvs : List (Option Str × V)) : It :=
  ⟨fun i H => H d = some (.frz o (dO P w d kvs)) ∧ i < kvs.length, fun i H x H' => H' = H ∧ ∃ k v, kvs[i]? = some (k, v) ∧ x = oV k, fun i H => H d = some (.frz o (dO P w d kvs)) ∧ kvs.length ≤ i⟩
section
variable {X : Cx} {pins : List (Addr × Obj)} {σ : L2.St} {H : Hp} {s : Shared} {d : Addr} {o : Obj} {kvs : List (Option Str × V)}
theorem oFrz (I : Inv X pins σ H s) (h : H d = some (.frz o (dO X.prog X.w d kvs))) : (d == sysModules) = false ∧ s.heap.get? d = some o ∧ o.ExactDict ∧
    ∃ (es : Array DictEntry) (ep : Nat) (vs : List (Option Str × Value)), o.data = .dict es ep ∧ es.size = kvs.length ∧ KV kvs vs ∧ s.heap.DictAt (oKd X.prog X.w) d vs ep := by
  obtain ⟨hd, _⟩ := I.hok d _ h
  obtain ⟨z, hs, vs, kr, o', es, ep, ho, hx, hdt, r⟩ := dO_at I.hok (.inr ⟨o, h⟩)
  rw [hd] at ho
  cases ho
  refine ⟨hs, hd, hx, es, ep, vs, hdt, ?_, kr, o, es, hd, hx, hdt, r⟩
  have l1 := r.2.1.length
  have l2 : kvs.length = vs.length := Paired.length kr
  rw [Array.length_toList] at l1
  omega
end
section
variable {P : Program} {w : World} {K : PySem.W.Frag} {tg : Expr} {d : Addr} {o : Obj} {es : Array DictEntry} {ep : Nat}
theorem turnO {kvs : List (Option Str × V)} (it : Addr) (hod : o.data = .dict es ep) : Turn P w K tg (ItO P w d o kvs) [it] it (fun i h => h.IsKeyIter it d i kvs.length ep) where
  mem := List.mem_singleton.mpr rfl
  obj := fun i h st b hb => by
    obtain rfl := List.mem_singleton.mp hb
    obtain ⟨oi, e, c, dd⟩ := st
    exact ⟨oi, e, fun v z => by rw [dd] at z; cases z⟩
  keep := fun i h h' st k => st.at fun oi e => k it (List.mem_singleton.mpr rfl) oi e
  item := by
    intro X hP hw hK hc i pins s σ H E I hf st hg
    subst hP hw hK
    obtain ⟨hd, hi⟩ := hg
    obtain ⟨f0, f1, f2, f3, f4, f5⟩ := hf it (List.mem_singleton.mpr rfl)
    obtain ⟨hs, hgd, hx, es', ep', vs, hdt, hsz, kr, hm⟩ := oFrz I hd
    obtain ⟨rfl, rfl⟩ := dict_ep hod hdt
    obtain ⟨⟨k, v⟩, hkv⟩ : ∃ p, kvs[i]? = some p := ⟨kvs[i], List.getElem?_eq_getElem hi⟩
    obtain ⟨u, hu, ru⟩ := kv_get kr hkv
    have hl : kvs.length = vs.length := Paired.length kr
    rw [hl] at st ⊢
    refine wpAny_pyNext_dict_item st hm hu fun key h' hkey st' sb => ?_
    have I1 : Inv X pins σ H { s with heap := h' } := I.turned (t' := s.toks) (fun b ob hb e => (sb.2 b hb).trans e) f0 f1 f3 f4 f5
    obtain ⟨oi, e, c, dd⟩ := id st'
    exact ⟨key, rfl, go_of (s := { s with heap := h' }) e c dd (by decide) ⟨oV k, H, I1, oV_of hkey, ⟨rfl, k, v, hkv, rfl⟩, st', fun b hb => (hf b hb).1⟩⟩
  done := by
    intro X hP hw hK hc i pins s σ H E I hf st hg
    subst hP hw hK
    obtain ⟨hd, hi⟩ := hg
    obtain ⟨f0, f1, f2, f3, f4, f5⟩ := hf it (List.mem_singleton.mpr rfl)
    obtain ⟨hs, hgd, hx, es', ep', vs, hdt, hsz, kr, hm⟩ := oFrz I hd
    obtain ⟨rfl, rfl⟩ := dict_ep hod hdt
    exact next_key_end (I.ok.hd hc) st hgd hdt hsz hi fun h' eb => ⟨rfl, I.turned (t' := s.toks) (fun b ob hb e => eb b ob hb e) f0 f1 f3 f4 f5⟩
  self := fun A i s Q E st h => wpAny_pyIter_keyiter st h
end
def iOkeys (X : Cx) (td : TE) : TI := fun σ H R => td σ H fun x H1 => ∃ d o kvs, x = .ref d ∧ H1 d = some (.frz o (dO X.prog X.w d kvs)) ∧ R (ItO X.prog X.w d o kvs) H1
theorem pi_okeys {X : Cx} {tg e : Expr} {td : TE} (he : PE X e td) : PI X tg e (iOkeys X td) := by
  refine ⟨fun pins s σ H R I h => thn (he.run pins s σ H _ I h) fun u s1 ⟨x, H1, I1, rx, d, o, kvs, ex, hd, q⟩ => ?_⟩
  subst ex
  obtain rfl : u = Value.ref d := rx
  obtain ⟨hs, hgd, hx, es, ep, vs, hdt, hsz, kr, hm⟩ := oFrz I1 hd
  refine iter_keys hs hgd hx hdt (pi_one (tk := s1.toks) I1 _ (turnO _ hdt) ⟨_, Heap.get?_push_size _ rfl, rfl, ?_⟩ q)
  rw [hsz] <;> rfl
/-- the loop over a locked dict's keys: an invariant over (turn, slots, heap) -/
theorem for_okeys {P : Program} {w : World} {d : Addr} {o : Obj} {kvs : List (Option Str × V)} {g : TG} {tb : TS} {D : Ends} {σ : L2.St} {H : Hp} (Pv : Nat → L2.St → Hp → Prop) (h0 : Pv 0 σ H) (hl : ∀ i σ H, Pv i σ H → H d = some (.frz o (dO P w d kvs)))
    (hs : ∀ i k v σ H, kvs[i]? = some (k, v) → Pv i σ H → g (oV k) σ H fun σ2 H2 => tb { D with nx := Pv (i + 1), ct := Pv (i + 1), bk := D.nx } σ2 H2) (hd : ∀ σ H, Pv kvs.length σ H → D.nx σ H) :
    ∃ W : Nat → Nat → L2.St → Hp → Prop, (∃ m, W 0 m σ H) ∧ ∀ i m σ H, W i m σ H → ((ItO P w d o kvs).stop i H ∧ D.nx σ H) ∨ ((ItO P w d o kvs).go i H ∧ ∃ N : L2.St → Hp → Prop, (∀ σ' H', N σ' H' → ∃ m', m' < m ∧ W (i + 1) m' σ' H') ∧
      ∀ x H', (ItO P w d o kvs).yld i H x H' → g x σ H' fun σ2 H2 => tb { D with nx := N, ct := N, bk := D.nx } σ2 H2) := by
  refine ⟨fun i m σ H => m = kvs.length - i ∧ i ≤ kvs.length ∧ Pv i σ H, ⟨_, rfl, Nat.zero_le _, h0⟩, ?_⟩
  rintro i m σ H ⟨rfl, hi, p⟩
  have q := hl i σ H p
  by_cases hlt : i < kvs.length
  · refine .inr ⟨⟨q, hlt⟩, Pv (i + 1), fun σ' H' p' => ⟨kvs.length - (i + 1), by omega, rfl, hlt, p'⟩, fun x H' y => ?_⟩
    obtain ⟨e, k, v, hk, ex⟩ := y
    subst e ex
    exact hs i k v σ H' hk p
  · obtain rfl : i = kvs.length := by omega
    exact .inl ⟨⟨q, Nat.le_refl _⟩, hd σ H p⟩
/-! ### == of two such dicts by the values' own == -/
section
variable {prog : Program} {w : World} {A : Around} {E : Value → Shared → Prop}
theorem same_pairs {nm : String} {a b : Addr} {ka kb : List (Option Str × Value)} {oa ob : Obj} {Q : Bool → Shared → Prop} (J : Shared → Prop) {s : Shared} (ha : (a == sysModules) = false) (hb : (b == sysModules) = false) (hj : J s)
    (rd : ∀ s', J s' → s'.heap.get? a = some oa ∧ s'.heap.get? b = some ob) (tk : ∀ s' t, J s' → J { s' with toks := t })
    (da : s.heap.DictOf (oKd prog w) a ka) (db : s.heap.DictOf (oKd prog w) b kb) (hl : ka.length = kb.length)
    (eqv : ∀ k v, (k, v) ∈ ka → ∃ y, valueAt kb k = some y ∧ ∀ s', J s' → wpAny (model prog w) A (eqBool v y) (fun r s2 => r = true ∧ J s2) E s') (h : ∀ s', J s' → Q true s') :
    wpAny (model prog w) A (Builtin.Dict.samePairs nm a b) Q E s := by
  obtain ⟨oa', es, ep, hoa, _, hda, hka, hpa, _⟩ := da
  obtain ⟨ob', es', ep', hob, _, hdb, hkb, hpb, _⟩ := db
  have ea := (rd s hj).1
  have eb := (rd s hj).2
  rw [hoa] at ea
  rw [hob] at eb
  obtain rfl := Option.some.inj ea
  obtain rfl := Option.some.inj eb
  have hla : ka.length = es.size := by rw [← hpa.length]; exact Array.length_toList
  have hlb : kb.length = es'.size := by rw [← hpb.length]; exact Array.length_toList
  have hsz : es.size = es'.size := by omega
  have look : ∀ k, findBy (oKd prog w).is es' k = valueAt kb k := fun k => by
    rw [← hpb.find k]
    clear hlb hpb hkb hdb hob hsz rd
    obtain ⟨l⟩ := es'
    simp [findBy]
  unfold Builtin.Dict.samePairs
  unfold Builtin.Dict.showsAll
  rw [if_neg (by rw [ha]; exact Bool.false_ne_true), if_neg (by rw [hb]; exact Bool.false_ne_true)]
  refine wpAny_bind (wpAny_pure (wpAny_bind (wpAny_pure (wpAny_bind (wpAny_dictEntries hoa hda ?_)))))
  dsimp only
  refine wpAny_bind (wpAny_dictEntries hob hdb ?_)
  rw [if_neg (by rw [hsz]; simp)]
  refine wpAny_bind (wpAny_dictEpoch hoa hda (wpAny_bind ?_))
  rw [Std.Legacy.Range.forIn_eq_forIn_range']
  simp only [Std.Legacy.Range.size, Nat.sub_zero, Nat.add_sub_cancel, Nat.div_one]
  refine wpAny_forIn_list _ (fun rest q s' => J s' ∧ q = (none, ()) ∧ ∃ i, rest = List.range' i (es.size - i) ∧ i ≤ es.size) _ ?_ ?_ _ _ ⟨hj, rfl, 0, by simp, Nat.zero_le _⟩
  · rintro x rest q s' ⟨hj', rfl, i, hr, hi⟩
    have hlt : i < es.size := by
      rcases Nat.lt_or_ge i es.size with z | z
      · exact z
      · rw [Nat.sub_eq_zero_of_le z] at hr
        simp at hr
    obtain ⟨rfl, hrest⟩ : x = i ∧ rest = List.range' (i + 1) (es.size - (i + 1)) := by
      rw [show es.size - i = (es.size - (i + 1)) + 1 by omega, List.range'_succ] at hr
      injection hr with h1 h2
      exact ⟨h1, h2⟩
    obtain ⟨ra, rb⟩ := rd s' hj'
    refine wpAny_bind (wpAny_dictEntries ra hda ?_)
    rw [Array.getElem?_eq_getElem hlt]
    have hlt' : x < ka.length := by rw [hla]; exact hlt
    obtain ⟨k, v, hkv⟩ : ∃ k v, ka[x] = (k, v) := ⟨_, _, rfl⟩
    obtain ⟨hkey, hval⟩ := hpa.get? (i := x) (e := es[x]) (k := k) (v := v) (by rw [Array.getElem?_toList]; exact Array.getElem?_eq_getElem hlt) (by rw [List.getElem?_eq_getElem hlt', hkv])
    obtain ⟨k', hk', hh⟩ := hka es[x] (Array.getElem_mem hlt)
    obtain rfl : k' = k := (oKd prog w).inj _ _ _ hk' hkey
    obtain ⟨y, hy, turn⟩ := eqv k' v (by rw [← hkv]; exact List.getElem_mem hlt')
    show wpAny _ _ (holding [es[x].key, es[x].val] _ >>= _) _ _ _
    rw [hh]
    refine wpAny_bind (wpAny_holding (wpAny_bind (wpAny_dictFind_of hkey rb hdb hkb ?_)))
    cases hj2 : es'.findIdx? fun e => (oKd prog w).is k' e.key with
    | none =>
      have hn : valueAt kb k' = none := by rw [← look k', findBy_of_findIdx?, hj2]
      rw [hn] at hy
      cases hy
    | some j =>
      obtain ⟨hjlt, _, _⟩ := Array.findIdx?_eq_some_iff_getElem.mp hj2
      have hv' : valueAt kb k' = some es'[j].val := by
        rw [← look k', findBy_of_findIdx?, hj2]
        simp [Array.getElem?_eq_getElem hjlt]
      have ey : es'[j].val = y := Option.some.inj (hv'.symm.trans hy)
      refine wpAny_bind (wpAny_dictEntries rb hdb ?_)
      rw [Array.getElem?_eq_getElem hjlt]
      rw [← ey, ← hval] at turn
      refine wpAny_holding (wpAny_mono (turn _ (by first | exact hj' | exact tk _ _ hj')) (fun r s2 z => ?_) fun _ _ z => z)
      obtain ⟨hr', hj3⟩ := z
      subst hr'
      show wpAny _ _ (if (!true) = true then _ else _) _ _ _
      rw [if_neg (by decide)]
      obtain ⟨ra3, _⟩ := rd s2 hj3
      refine wpAny_bind (wpAny_dictEpoch ra3 hda ?_)
      rw [if_neg (by simp)]
      exact wpAny_pure ⟨hj3, rfl, x + 1, hrest, hlt⟩
  · rintro q s' ⟨hj', rfl, _⟩
    exact wpAny_pure (h s' hj')
end
end K34
set_option Elab.async false
set_option linter.all false
set_option maxRecDepth 100000
set_option maxHeartbeats 2000000
/-! K34Dict3: dict == dict by own ==, as an operator; an object of the heap tracked from now on; list(d.items()). -/
namespace K34
open PySem PySem.Spec PyProof.Rows L2
theorem pget {α β : Type} {F : α → β → Prop} : ∀ {xs : List α} {ys : List β}, Paired F xs ys → ∀ {i : Nat} {y : β}, ys[i]? = some y → ∃ x, xs[i]? = some x ∧ F x y
  | _, _, .nil, _, _, h => by cases h
  | _, _, .cons r t, 0, y, h => ⟨_, rfl, Option.some.inj h ▸ r⟩
  | _, _, .cons r t, i + 1, y, h => pget t (i := i) h
/-- all but what stands at a and b is kept -/
def KeepsB (a b : Addr) (H H' : Hp) : Prop := ∀ c o, c ≠ a → c ≠ b → H c = some o → H' c = some o
def rEqO (X : Cx) (D : Eqv) : R2 := fun x y H Q => ∃ a b ka kb, x = .ref a ∧ y = .ref b ∧ a ≠ b ∧ H a = some (dO X.prog X.w a ka) ∧ H b = some (dO X.prog X.w b kb) ∧ ka.length = kb.length ∧
  (∀ k v, (k, v) ∈ ka → ∃ u, valV kb k = some u ∧ ∀ H', KeepsB a b H H' → D v u H') ∧ ∀ H', Ext H H' → Q (.bl true) H'
theorem op_eqO {X : Cx} {n : Nat} {D : Eqv} (hE : EqG X n D) (hr : Room (n + 1) X.A) : OpR X (compareOp .Eq) (rEqO X D) := by
  intro pins s σ H x y v u Q I rx ry ⟨a, b, ka, kb, ex, ey, hab, ha, hb, hl, hv, q⟩
  subst ex ey
  obtain rfl : v = Value.ref a := rx
  obtain rfl : u = Value.ref b := ry
  have mA : Mut (some (dO X.prog X.w a ka)) := True.intro
  have mB : Mut (some (dO X.prog X.w b kb)) := True.intro
  have nA := I.nofrz ha mA
  have nB := I.nofrz hb mB
  obtain ⟨oa, I1⟩ := I.lock ha mA
  have hb1 : upd H a (.frz oa (dO X.prog X.w a ka)) b = some (dO X.prog X.w b kb) := by rw [upd_ne (Ne.symm hab)]; exact hb
  obtain ⟨ob, I2⟩ := I1.lock hb1 mB
  have fa : upd (upd H a (.frz oa (dO X.prog X.w a ka))) b (.frz ob (dO X.prog X.w b kb)) a = some (.frz oa (dO X.prog X.w a ka)) := by rw [upd_ne hab, upd_same]
  have fb : upd (upd H a (.frz oa (dO X.prog X.w a ka))) b (.frz ob (dO X.prog X.w b kb)) b = some (.frz ob (dO X.prog X.w b kb)) := upd_same
  have kB : KeepsB a b H (upd (upd H a (.frz oa (dO X.prog X.w a ka))) b (.frz ob (dO X.prog X.w b kb))) := fun c o h1 h2 e => by rw [upd_ne h2, upd_ne h1]; exact e
  obtain ⟨_, sa, va, kra, dda⟩ := dO_at I2.hok (.inr ⟨oa, fa⟩)
  obtain ⟨_, sb, vb, krb, ddb⟩ := dO_at I2.hok (.inr ⟨ob, fb⟩)
  have e1 : va.length = vb.length := by rw [← Paired.length kra, ← Paired.length krb]; exact hl
  show wpAny (model X.prog X.w) X.A (richCompare .Eq (.ref a) (.ref b)) (EP X pins σ Q) X.xe s
  refine wpAny_richCompare_same_room (op := .Eq) dda.typeIs ddb.typeIs PySem.F.slot_dict_eq (wpAny_call_entry PySem.F.slot_dict_eq dda.typeIs PySem.F.entry_dict_eq ?_ (PySem.F.args_dict_eq_2 _ _)) hr.units0
  show wpAny _ _ (Builtin.Dict.dictSlotArgs "__eq__" ⟨[.ref a, .ref b], []⟩ >>= _) _ _ s
  refine wpAny_bind ?_
  unfold Builtin.Dict.dictSlotArgs
  refine wpAny_bind (wpAny_notOrdered_dict dda.typeIs (wpAny_pure (wpAny_bind (wpAny_isInstance (T := "dict") ddb.typeIs PySem.F.sub_dict_dict ?_))))
  simp only [Bool.not_true, Bool.false_eq_true, if_false]
  refine wpAny_bind (wpAny_pure (wpAny_bind (wpAny_pure (wpAny_bind ?_))))
  refine same_pairs (oa := oa) (ob := ob) (fun s' => ∃ H', Inv X pins σ H' s' ∧ Ext (upd (upd H a (.frz oa (dO X.prog X.w a ka))) b (.frz ob (dO X.prog X.w b kb))) H') sa sb ⟨_, I2, fun _ _ e => e⟩ (fun s' ⟨H', J, e⟩ => ?_) (fun s' t ⟨H', J, e⟩ => ⟨H', J.tok t, e⟩) dda ddb e1 (fun k v hkv => ?_) (fun s' ⟨H', J, e⟩ => ?_)
  · obtain ⟨z1, _⟩ := J.hok a _ (e _ _ fa)
    obtain ⟨z2, _⟩ := J.hok b _ (e _ _ fb)
    exact ⟨z1, z2⟩
  · obtain ⟨i, hi⟩ := List.mem_iff_getElem?.mp hkv
    obtain ⟨⟨k0, v0⟩, h0, e0, r0⟩ := pget kra hi
    obtain rfl : k0 = k := e0
    obtain ⟨u0, hu0, hD⟩ := hv k0 v0 (List.mem_of_getElem? h0)
    obtain ⟨w', hw, rw'⟩ := RelO.some_of (v := u0) (o := valueAt vb k0) (by rw [← hu0]; exact KV.val krb k0)
    refine ⟨w', hw, fun s' ⟨H', J, e⟩ => ?_⟩
    have kB2 : KeepsB a b H H' := fun c o h1 h2 z => e _ _ (kB c o h1 h2 z)
    refine wpAny_mono (hE X.A.in1 pins s' σ H' v0 u0 v w' (Sub.in1 ⟨hr, rfl⟩) J r0 rw' (hD H' kB2)) (fun r s2 z => ?_) fun _ _ z => z
    obtain ⟨z1, H2, J2, e2⟩ := z
    exact ⟨z1, H2, J2, e.trans e2⟩
  · refine wpAny_pure ⟨_, rfl, (by intro z; cases z), ?_⟩
    have J1 := J.unlock (e _ _ fb) nB
    have J2 := J1.unlock (d := a) (od := oa) (u := dO X.prog X.w a ka) (by rw [upd_ne hab]; exact e _ _ fa) nA
    refine ⟨.bl true, _, J2, rfl, q _ fun c o z => ?_⟩
    by_cases h1 : c = a
    · rw [h1, upd_same, ← ha, ← h1, z]
    · rw [upd_ne h1]
      by_cases h2 : c = b
      · rw [h2, upd_same, ← hb, ← h2, z]
      · rw [upd_ne h2]
        exact e _ _ (kB c o h1 h2 z)
/-! ### an object tracked from now on -/
theorem track {X : Cx} {pins : List (Addr × Obj)} {σ σ0 : L2.St} {H0 H : Hp} {s0 s : Shared} {a : Addr} {o : HO} (I0 : Inv X pins σ0 H0 s0) (I : Inv X pins σ H s) (ha : s0.heap.objs.size ≤ a) (hn : H a = none) (new : ObjOk X.prog X.w (upd H a o) s.heap a o) : Inv X pins σ (upd H a o) s := by
  have ne : ∀ {b : Addr} {u : HO}, H b = some u → b ≠ a := fun e => ne_of_none e hn
  have low : ∀ {b : Addr} {u : Obj}, s0.heap.get? b = some u → b ≠ a := fun e => Nat.ne_of_lt (Nat.lt_of_lt_of_le (Heap.lt_size e) ha)
  refine ⟨I.ok, I.os, I.bare, ⟨I.base.keep, I.base.slot, fun b u e n hx => ?_, I.base.there, fun b xs e => ?_, fun b u x e => ?_, fun b ps e => ?_⟩, I.loc, I.cell, ?_, fun x c e => ?_, fun p hp => ?_, fun b u e => ?_, I.len⟩
  · rw [upd_ne (Nat.ne_of_lt (Nat.lt_of_lt_of_le (Heap.lt_size e) (Nat.le_trans I0.sz ha)))]
    exact I.base.free b u e n hx
  · have q := I.base.tups b xs e
    rw [upd_ne (ne q)]
    exact q
  · have q := I.base.frzs b u x e
    rw [upd_ne (ne q)]
    exact q
  · obtain ⟨m, q⟩ := I.base.tbls b ps e
    exact ⟨m, by rw [upd_ne (ne q)]; exact q⟩
  · rw [upd_ne (Nat.ne_of_lt (Nat.lt_of_lt_of_le I0.lt ha))]
    exact I.free
  · obtain ⟨v, q⟩ := I0.cell x c e
    rw [upd_ne (Nat.ne_of_lt (Nat.lt_of_lt_of_le q.lt ha))]
    exact I.freeC x c e
  · obtain ⟨e, n, r⟩ := I.pin p hp
    exact ⟨e, by rw [upd_ne (low (I0.pin p hp).1)]; exact n, r⟩
  · by_cases hb : b = a
    · rw [hb, upd_same] at e
      obtain rfl := Option.some.inj e
      rw [hb]
      exact new
    · rw [upd_ne hb] at e
      exact (I.hok b u e).stay (fun _ _ _ q => q) (fun c q => by rw [upd_ne (ne q)]; exact q) fun c xs q => by rw [upd_ne (ne q)]; exact q
/-! ### list(d.items()) -/
/-- several tuples tracked, one behind the other -/
theorem tracks {X : Cx} {pins : List (Addr × Obj)} {σ : L2.St} {H0 : Hp} {s0 s : Shared} (I0 : Inv X pins σ H0 s0) : ∀ (as : List Addr) (kvs : List (Option Str × V)) (vs : List (Option Str × Value)) (H : Hp), Inv X pins σ H s → KV kvs vs → as.Nodup → as.length = vs.length → (∀ a ∈ as, s0.heap.objs.size ≤ a ∧ H a = none) →
    (∀ (j : Nat) (a : Addr), as[j]? = some a → ∃ key k x, vs[j]? = some (k, x) ∧ (oKd X.prog X.w).is k key = true ∧ s.heap.get? a = some { cls := .type "tuple", data := .seq #[key, x] }) →
    ∃ H', Inv X pins σ H' s ∧ (∀ b o, H b = some o → H' b = some o) ∧ Paired (fun (t : Addr) (q : Option Str × V) => H' t = some (.tup [oV q.1, q.2])) as kvs
  | [], kvs, vs, H, I, kr, _, hl, _, _ => by
    cases kr with
    | nil => exact ⟨H, I, fun _ _ e => e, .nil⟩
    | cons r t => cases hl
  | a :: as, kvs, vs, H, I, kr, nd, hl, hn, hp => by
    cases kr with
    | nil => cases hl
    | @cons kv v kvs vs r t =>
      obtain ⟨h0, h1⟩ := hn a List.mem_cons_self
      obtain ⟨n1, n2⟩ := List.nodup_cons.mp nd
      obtain ⟨key, k, x, e1, e2, e3⟩ := hp 0 a rfl
      obtain rfl := Option.some.inj e1
      obtain ⟨r1, r2⟩ := r
      have rk : RelV (oV kv.1) key := by rw [r1]; exact oV_of e2
      have I1 := track (o := .tup [oV kv.1, kv.2]) I0 I h0 h1 ⟨(by show 2 ≤ sizeLine; decide), [key, x], .cons rk (.cons r2 .nil), ⟨_, e3, rfl, _, rfl⟩⟩
      obtain ⟨H', J, k1, k2⟩ := tracks I0 as kvs vs _ I1 t n2 (Nat.succ.inj hl) (fun b hb => ⟨(hn b (List.mem_cons_of_mem _ hb)).1, by rw [upd_ne (fun z => n1 (by rw [← z]; exact hb))]; exact (hn b (List.mem_cons_of_mem _ hb)).2⟩) fun j b e => hp (j + 1) b (by simpa using e)
      refine ⟨H', J, fun b o e => k1 b o (by rw [upd_ne (ne_of_none e h1)]; exact e), .cons (k1 _ _ upd_same) k2⟩
def rOitems (X : Cx) : V → Hp → VK → Prop := fun x H Q => ∃ (d : Addr) (kvs : List (Option Str × V)), x = .ref d ∧ H d = some (dO X.prog X.w d kvs) ∧
  ∀ (H' : Hp) (p : Addr) (ts : List Addr), (∀ b o, H b = some o → H' b = some o) → H' p = some (.lst (ts.map V.ref)) → Paired (fun (t : Addr) (q : Option Str × V) => H' t = some (.tup [oV q.1, q.2])) ts kvs → Q (.ref p) H'
theorem vrefs : ∀ as : List Addr, Vals (as.map V.ref) (as.map Value.ref)
  | [] => .nil
  | _ :: as => .cons rfl (vrefs as)
theorem pe_oitems {X : Cx} {e : Expr} {te : TE} {p apos cpos pos : Pos} (hc : X.calm = true) (he : PE X e te) (hg : Gl X "list") (hm : X.mg "list" = none) (hbase : attributeBase e "items" X.env (eval e X.env) = eval e X.env := by rfl) (hline : (apos.endLine == cpos.line) = true := by rfl)
    (hs : starEach [.Call (.Attribute e "items" apos) [] [] cpos] X.env = (false, eval (.Call (.Attribute e "items" apos) [] [] cpos) X.env) :: starEach [] X.env := by rfl) :
    PE X (.Call (.Name "list" p) [.Call (.Attribute e "items" apos) [] [] cpos] [] pos) (fun σ H Q => te σ H fun x H1 => rOitems X x H1 Q) := by
  have hv : bootBuiltins "list" = some (.type "list") := by decide +kernel
  refine ⟨fun pins s σ H Q I hq => wpAny_Call_Name_kw (ld_blt I hg hm hv (PyProof.Rows.callWith_type1 ?_ hs rfl))⟩
  rw [hs]
  show wpAny _ _ (spliced ((false, eval (.Call (.Attribute e "items" apos) [] [] cpos) X.env) :: backTo pos (starEach [] X.env))) _ _ s
  refine Calls.spliced_cons (wpAny_Call_method (T := "dict") (id := "dict.items") hbase rfl hline F.plainAttrs_dict F.slot_dict_items F.type_dict_items (thn (he.run pins s σ H _ I hq) fun u s1 ⟨x, H1, I1, rx, d, kvs, ex, hd, q⟩ => ?_))
  subst ex
  obtain rfl : u = Value.ref d := rx
  obtain ⟨hz, hs0, vs, kr, hdo⟩ := dO_at I1.hok (.inl hd)
  obtain ⟨ep, hat⟩ := hdo.dictAt
  have lk : kvs.length = vs.length := Paired.length kr
  have I2 : Inv X pins σ H1 { s1 with heap := s1.heap.push { cls := .type "dict_items", data := .fields #[.ref d] } } := I1.kept (t' := s1.toks) fun b ob q => Heap.get?_push_of_some _ q
  refine ⟨hdo.typeIs, hdo.mapOf.noDict, ?_⟩
  show wpAny _ _ (callWith cpos (.builtin "dict.items") [.ref d] [] []) _ X.xe s1
  refine method_meetsIn F.slot_dict_items F.entry_dict_items rfl (PySem.evalArgs_none ⟨rfl, hdo.typeIs, F.args_dict_items_1 _, _, meets_dict_items (oKd X.prog X.w) d hs0, ⟨vs, hdo⟩, Calls.spliced_nil ?_⟩)
  refine PySem.W.kdx_call (knd := oKd X.prog X.w) (kvs := vs) (ep := ep) (I1.ok.hd hc) ⟨_, Heap.get?_push_size _ rfl, rfl, rfl⟩ (hat.push _) (by omega) fun h' tk acc c as hk hS hl hG hacc => ?_
  have I3 := I2.kept (t' := tk) hk
  have hS' := hS
  have ea : acc = (as.map Value.ref).toArray := by rw [← hacc]
  subst ea
  have I4 := track (o := .lst (as.map V.ref)) I2 I3 (Nat.le_refl _) (I2.hok.fresh (Nat.le_refl _)) ⟨by rw [List.length_map]; omega, as.map Value.ref, c, vrefs as, hS'⟩
  have nd : as.Nodup := List.Pairwise.imp (fun {a b} (h : a < b) => Nat.ne_of_lt h) hG.rise
  obtain ⟨H', J, k1, k2⟩ := tracks I2 as kvs vs _ I4 kr nd hl (fun a ha => ⟨Nat.le_of_lt (hG.above a ha), by rw [upd_ne (Nat.ne_of_gt (hG.above a ha))]; exact I2.hok.fresh (Nat.le_of_lt (hG.above a ha))⟩) hG.pairs
  refine ⟨.ref _, H', J, rfl, q H' _ as (fun b o e => k1 b o ?_) (k1 _ _ upd_same) k2⟩
  rw [upd_ne (ne_of_none e (I2.hok.fresh (Nat.le_refl _)))]
  exact e
end K34
set_option Elab.async false
set_option linter.all false
set_option maxRecDepth 100000
set_option maxHeartbeats 2000000
/-! K34Own: != by an own ==; len by an own __len__; a list that isn't empty against []. -/
namespace K34
open PySem PySem.Spec PyProof.Rows L2
section
variable {prog : Program} {w : World} {A : Around} {E : Value → Shared → Prop} {s : Shared} {K : PySem.W.Frag} {x y C f : Addr} {ox : Obj} {od : Option Obj}
/-- x != y, where x has an own == and no own != -/
theorem ne_own {Q : Value → Shared → Prop} (X : K.In s.heap) (I : PySem.W.InstAt s.heap x ox C od) (hy : PySem.W.Looks (model prog w) s.heap (typeOf (.ref y)) (.ref C)) (hu : A.units + 1 < cLine)
    (hn : PySem.W.findIn K (.ref C) "__ne__" = some (some (.builtin "object.__ne__"))) (ho : PySem.W.subIn K (.ref C) (.type "object") = some true) (hs : PySem.W.findIn K (.ref C) "__eq__" = some (some (.ref f))) (hf : PySem.W.isFn K (.ref f) = true)
    (h : wpAny (model prog w) A.in1 (call (.ref f) [.ref x, .ref y]) (fun v s' => v = .bool true ∧ Q (.bool false) s') E s) : wpAny (model prog w) A (richCompare .NotEq (.ref x) (.ref y)) Q E s := by
  have bnd : ∀ self, bindSpecial (.builtin "object.__ne__") self = pure (.builtin "object.__ne__", [self]) := fun self => PySem.F.slot_tuple_iterator_ne.bind self
  have sub : PySem.W.Looks (model prog w) s.heap (isInstance (.ref x) (.type "object")) true := I.type.andThen (PySem.W.looks_subIn X ho)
  have core : wpAny (model prog w) A.in1 (Builtin.«object.__ne__» ⟨[.ref x, .ref y], []⟩) (fun fin s' => ∃ v, fin = .done (.ret v) ∧ v = .bool false ∧ Q v s') E s := by
    obtain ⟨hp, g, d, t, os⟩ := s
    unfold Builtin.«object.__ne__»
    repeat (first
      | with_reducible refine wpAny_cRoomFor hu ?_
      | (refine wpAny_bind (m := callSpecialIfBound? (.ref x) (Str.ofString "__eq__") [.ref y]) (PySem.W.ifBound_K X I hs hf (wpAny_mono h (fun r s' hr => ?_) fun _ _ e => e)))
      | wp_step)
    obtain ⟨rfl, hq⟩ := hr
    refine wpAny_bind (wpAny_truthy_bool ?_)
    exact wpAny_pure ⟨_, rfl, rfl, hq⟩
  have one : wpAny (model prog w) A (tryCompare (.ref x) (cmpInfo .NotEq).2.1 (.ref y)) (fun r s' => ∃ v, r = some v ∧ Q v s') E s := by
    unfold tryCompare
    refine wpAny_bind ?_
    simp only [callSpecialIfBound?, bindSpecialIfBound?]
    refine wpAny_holding (wpAny_bind (wpAny_bind (wpAny_bind (I.type.here ((PySem.W.looks_findIn X hn).here ?_)))))
    refine wpAny_bind (wpAny_askSetting (wpAny_ite ?_))
    have fin : wpAny (model prog w) A (call (.builtin "object.__ne__") ([.ref x] ++ [.ref y]) >>= fun v => pure (some v)) (fun a s_1 => wpAny (model prog w) A (match a with
        | some Value.notImplemented => pure none
        | none => pure none
        | some v => pure (some v)) (fun r s' => ∃ v, r = some v ∧ Q v s') E s_1) E s := by
      refine wpAny_bind (wpAny_call (codeAny_call_builtin PySem.F.slot_tuple_iterator_ne.plain PySem.F.cmpEntry_ne (PySem.W.check_slot PySem.F.cmpKind_ne PySem.F.cmpSplit_ne sub (PySem.F.cmpArgs_ne _ _) (wpAny_mono core (fun fin s' z => ?_) fun _ _ e => e))))
      obtain ⟨v, rfl, rfl, hq⟩ := z
      exact wpAny_pure (wpAny_pure ⟨_, rfl, hq⟩)
    split
    · rw [bnd]
      exact wpAny_bind (wpAny_pure (wpAny_pure fin))
    · refine wpAny_tryCatch ?_
      rw [bnd]
      exact wpAny_bind (wpAny_pure (wpAny_pure fin))
  unfold richCompare
  simp only [oneThing_ref]
  refine wpAny_holding (wpAny_bind (wpAny_cRoomFor (Nat.lt_of_succ_lt hu) ?_))
  refine wpAny_bind (I.type.here (wpAny_bind (hy.here ?_)))
  rw [show (Value.ref C != Value.ref C) = false from by simp]
  simp only [Bool.false_eq_true, if_false]
  refine wpAny_bind (wpAny_pure ?_)
  simp only [Bool.false_eq_true, if_false]
  refine wpAny_bind (wpAny_mono one (fun r s' z => ?_) fun _ _ e => e)
  obtain ⟨v, rfl, hq⟩ := z
  exact wpAny_pure hq
end
/-! ### the same over the abstract heap -/
section
variable {X : Cx} {CX : CXT} {n : Nat} {C f : Addr} {fd : FuncData} {ps : List Str} {E : XK}
/-- the own == called: it says True, and only makes objects -/
theorem call_own_eq {R : Addr → Addr → Hp → Prop} {A : Around} {pins : List (Addr × Obj)} {s : Shared} {σ : L2.St} {H : Hp} {a b : Addr} (F : FnOk X.prog X.w X.K X.mg X.base CX n f fd ps (spEq R)) (hb : Binds X.K fd ps []) (hx : Passes CX X E) (sb : L2.Sub X n A)
    (I : Inv X pins σ H s) (hr : R a b H) : wpAny (model X.prog X.w) A (call (.ref f) [.ref a, .ref b]) (fun v s' => v = .bool true ∧ ∃ H', Inv X pins σ H' s' ∧ Ext H H') X.xe s := by
  have hsp : spEq R [.ref a, .ref b] H (fun v H' => v = .bl true ∧ Ext H H') E := ⟨a, b, rfl, hr, fun H' e => ⟨rfl, e⟩⟩
  have e := I.env0
  have e0 : Env0 X.prog X.w X.K X.mg X.base A X.stack s H := ⟨by rw [sb.fr]; exact e.frames, e.mod, e.bs, e.bsz, e.funs, e.frf, e.hok, e.bare⟩
  have hl := F.len _ _ _ _ hsp
  have r2 : Vals [V.ref a, V.ref b] [Value.ref a, Value.ref b] := .cons rfl (.cons rfl .nil)
  have hB := hb s [.ref a, .ref b] I.kIn (by simpa using hl)
  rw [List.append_nil] at hB
  refine wpAny_call (codeAny_mono (F.run A X.stack s H ⟨[.ref a, .ref b], []⟩ [.ref a, .ref b] [.ref a, .ref b] _ E sb.room e0 hB r2 hsp) fun r s' hq => ?_)
  cases r with
  | error er => exact hx pins σ H s er s' I hq
  | ok fl => cases fl with
    | ret u =>
      obtain ⟨z, H', I', rz, ez, ex⟩ := I.after hq
      subst ez
      obtain rfl : u = Value.bool true := rz
      exact ⟨rfl, H', I', ex⟩
    | next => exact hq.elim
    | brk => exact hq.elim
    | cont => exact hq.elim
/-- x != y where the own == says True -/
def rNeOwn (C : Addr) (R : Addr → Addr → Hp → Prop) : R2 := fun x y H Q => ∃ a b dx dy fs gs, x = .ref a ∧ y = .ref b ∧ H a = some (.ins C dx fs) ∧ H b = some (.ins C dy gs) ∧ R a b H ∧ ∀ H', Ext H H' → Q (.bl false) H'
theorem op_ne_own {R : Addr → Addr → Hp → Prop} (F : FnOk X.prog X.w X.K X.mg X.base CX n f fd ps (spEq R)) (hn : PySem.W.findIn X.K (.ref C) "__ne__" = some (some (.builtin "object.__ne__"))) (ho : PySem.W.subIn X.K (.ref C) (.type "object") = some true)
    (hs : PySem.W.findIn X.K (.ref C) "__eq__" = some (some (.ref f))) (hf : PySem.W.isFn X.K (.ref f) = true) (hb : Binds X.K fd ps []) (hx : Passes CX X E) (hr : Room (n + 1) X.A) : OpR X (compareOp .NotEq) (rNeOwn C R) := by
  intro pins s σ H x y v u Q I rx ry ⟨a, b, dx, dy, fs, gs, ex, ey, ha, hb', hR, q⟩
  subst ex ey
  obtain rfl : v = Value.ref a := rx
  obtain rfl : u = Value.ref b := ry
  obtain ⟨mA, J, _⟩ := ins_get I.hok ha
  obtain ⟨mB, J', _⟩ := ins_get I.hok hb'
  obtain ⟨od, J, _⟩ := J.look
  obtain ⟨od', J', _⟩ := J'.look
  have hu := hr.units0
  show wpAny (model X.prog X.w) X.A (richCompare .NotEq (.ref a) (.ref b)) (EP X pins σ Q) X.xe s
  refine ne_own I.kIn J J'.type (by have := hr.un; omega) hn ho hs hf (wpAny_mono (call_own_eq F hb hx (L2.Sub.in1 ⟨hr, rfl⟩) I hR) (fun r s' z => ?_) fun _ _ z => z)
  obtain ⟨z1, H', I', e⟩ := z
  exact ⟨z1, .bl false, H', I', rfl, q H' e⟩
/-- len(o) by an own __len__ -/
def rLenOwn (C : Addr) (sp : Sp) (E : XK) : List V → Hp → VK → Prop := fun xs H Q => ∃ a dx fs, xs = [.ref a] ∧ H a = some (.ins C dx fs) ∧ sp [.ref a] H (fun v H' => ∃ k : Int, v = .int k ∧ (0 ≤ k ∧ k < 2 ^ 63) ∧ Q (.int k) H') E
theorem call_len_own {sp : Sp} (F : FnOk X.prog X.w X.K X.mg X.base CX n f fd ps sp) (hs : PySem.W.findIn X.K (.ref C) "__len__" = some (some (.ref f))) (hf : PySem.W.isFn X.K (.ref f) = true) (hb : Binds X.K fd ps []) (hx : Passes CX X E) (hr : Room (n + 1) X.A) :
    CallR X (.builtin "len") (rLenOwn C sp E) := by
  intro pins s σ H xs us Q I r ⟨a, dx, fs, ex, ha, hsp⟩
  subst ex
  obtain ⟨u, rfl, rx⟩ := vals1 r
  obtain rfl : u = Value.ref a := rx
  obtain ⟨mA, J, _⟩ := ins_get I.hok ha
  obtain ⟨od, J, _⟩ := J.look
  obtain ⟨m, hF⟩ := I.fr
  have hl := F.len _ _ _ _ hsp
  have hB := hb s [.ref a] I.kIn (by simpa using hl)
  rw [List.append_nil] at hB
  refine PySem.W.len_K hF I.ok.mod.kin J hs hf (wpAny_call (codeAny_mono (F.run X.A.in1 X.stack s H ⟨[.ref a], []⟩ [.ref a] [.ref a] _ E hr.in1 I.env0.in1 hB (.cons rfl .nil) hsp) fun r s' hq => ?_))
  cases r with
  | error er => exact hx pins σ H s er s' I hq
  | ok fl => cases fl with
    | ret u =>
      obtain ⟨z, H', I', rz, k, ez, hk, q⟩ := I.after hq
      subst ez
      obtain ⟨t, rfl⟩ := rz
      exact ⟨hk, .int k, H', I'.tok _, ⟨_, rfl⟩, q⟩
    | next => exact hq.elim
    | brk => exact hq.elim
    | cont => exact hq.elim
/-- a list that isn't empty != [] -/
theorem op_ne_nil (hu : X.A.units < cLine) : OpR X (compareOp .NotEq) (fun x y H Q => ∃ a b xs, x = .ref a ∧ y = .ref b ∧ H a = some (.lst xs) ∧ H b = some (.lst []) ∧ xs ≠ [] ∧ Q (.bl true) H) := by
  intro pins s σ H x y v u Q I rx ry ⟨a, b, xs, ex, ey, ha, hb, hx, q⟩
  subst ex ey
  obtain rfl : v = Value.ref a := rx
  obtain rfl : u = Value.ref b := ry
  obtain ⟨_, its, n1, r1, e1⟩ := I.hok a _ ha
  obtain ⟨_, its2, n2, r2, e2⟩ := I.hok b _ hb
  cases r2
  have hne : its ≠ [] := fun z => by
    subst z
    cases r1
    exact hx rfl
  show wpAny (model X.prog X.w) X.A (richCompare .NotEq (.ref a) (.ref b)) (EP X pins σ Q) X.xe s
  refine wpAny_richCompare_same_room (op := .NotEq) ⟨_, e1, rfl⟩ ⟨_, e2, rfl⟩ PySem.F.slot_list_ne (GQ.call_here PySem.F.slot_list_ne ⟨_, e1, rfl⟩ PySem.F.entry_list_ne (PySem.F.args_list_ne_2 _ _) ?_) hu
  obtain ⟨hp, g, d, tk, os⟩ := s
  have f3 := AutoSeq1.sub_list_list
  have hsz : (its.toArray.size != ([] : List Value).toArray.size) = true := by
    cases its with
    | nil => exact absurd rfl hne
    | cons i r => simp
  wp_walk using AutoSeq1.wpAny_loadPart' e1, AutoSeq1.wpAny_loadPart' e2
  exact ⟨(by intro z; cases z), .bl true, H, I, rfl, q⟩
end
end K34
set_option Elab.async false
set_option linter.all false
set_option maxRecDepth 100000
set_option maxHeartbeats 2000000
/-! K34Sort: sorted(a tuple, key=f) where f's calls are known by what they leave in the abstract heap. -/
namespace K34
open PySem PySem.Spec PyProof.Rows L2 PySem.W
section
variable {prog : Program} {w : World} {A : Around} {E : Value → Shared → Prop} {s : Shared}
theorem collect_tupK {a : Addr} {us : List Value} {Q : List Value → Shared → Prop} (ht : IsTup s.heap a us.toArray) (hz : us.length ≤ sizeLine) (q : Q us { s with heap := (s.heap.push (seqObj "list" #[] 0)).update s.heap.objs.size (Obj.mapSeq (· ++ us.toArray)) }) :
    wpAny (model prog w) A (collect (.ref a)) Q E s := by
  obtain ⟨ob, hob, hcl, ep, hdt⟩ := id ht
  unfold collect
  refine wpAny_bind (wpAny_runValue (codeAny_builtin entry_proto_collect' ?_))
  show wpAny _ _ (do again (.builtin "list.__iadd__" ⟨[← newList [], .ref a], []⟩)) _ _ s
  refine wpAny_bind (wpAny_newList (wpAny_pure ⟨Code.quiet_builtin _ (by decide +kernel), codeAny_builtin entry_list_iadd' ?_⟩))
  show wpAny _ _ (Builtin.List.listExtendWith (.ref s.heap.objs.size) (.ref a) (.ref s.heap.objs.size)) _ _ { s with heap := s.heap.push (seqObj "list" #[] 0) }
  unfold Builtin.List.listExtendWith
  have hob' : (s.heap.push (seqObj "list" #[] 0)).get? a = some ob := Heap.get?_push_of_some _ hob
  refine wpAny_bind (wpAny_typeOf (T := "tuple") ⟨ob, hob', hcl⟩ ?_)
  have tt : (Value.type "tuple" == Value.type "tuple") = true := by rfl
  rw [if_pos (by rw [tt]; simp)]
  refine wpAny_bind (listItems_at hob' hdt ?_)
  refine wpAny_bind (listItems_at (xs := #[]) (n := 0) (Heap.get?_push_size _ rfl) rfl ?_)
  rw [if_neg (by simp)]
  refine wpAny_bind (listUpdate_at (xs := #[]) (n := 0) (Heap.get?_push_size _ rfl) rfl ?_ (Nat.zero_le _) (by show (#[] ++ us.toArray).size ≤ sizeLine + 1; simp only [Array.size_append, List.size_toArray, List.length_nil]; omega))
  refine wpAny_pure ?_
  show wpAny (model prog w) A (do
      let ob ← load s.heap.objs.size
      match ob.data with
      | .seq xs _ => pure xs.toList
      | _ => unsupported "internal:collect") Q E { s with heap := (s.heap.push (seqObj "list" #[] 0)).update s.heap.objs.size (Obj.mapSeq (· ++ us.toArray)) }
  refine wpAny_bind (wpAny_load (get?_update_seq (Heap.get?_push_size _ rfl) _) ?_)
  show wpAny _ _ (pure ((#[] : Array Value) ++ us.toArray).toList) Q E _
  rw [show ((#[] : Array Value) ++ us.toArray).toList = us by simp]
  exact wpAny_pure q
/-- sorted of a tuple: list.sort of a new list -/
theorem sorted_of_tup {a : Addr} {us : List Value} {kw : List (Str × Value)} {Q : Value → Shared → Prop} (ht : IsTup s.heap a us.toArray) (hz : us.length ≤ sizeLine) (k1 : argsOk "sorted" ⟨[.ref a], kw⟩) (k2 : ∀ x, argsOk "list.sort" ⟨[.ref x], kw⟩)
    (body : ∀ E' : Value → Shared → Prop, (∀ v s', E' v s' → False) ∨ True → wpAny (model prog w) A.in1.in1 (Builtin.«list.sort» ⟨[.ref (s.heap.objs.size + 1)], kw⟩) (fun f s' => f = .done (.ret .none) ∧ Q (.ref (s.heap.objs.size + 1)) s') E' { s with heap := copyHeap s.heap us }) :
    wpAny (model prog w) A (call (.builtin "sorted") [.ref a] kw) Q E s := by
  refine call_function_entry_kw kind_sorted plain_sorted entry_sorted k1 ?_
  unfold Builtin.«sorted»
  refine wpAny_bind (m := checkCount "sorted" 1 1 _) (wpAny_pure ?_)
  refine wpAny_bind (collect_tupK ht hz ?_)
  refine wpAny_bind (wpAny_newList ?_ hz)
  have hsz : ((s.heap.push (seqObj "list" #[] 0)).update s.heap.objs.size (Obj.mapSeq (· ++ us.toArray))).objs.size = s.heap.objs.size + 1 := by rw [Heap.size_update, size_push']
  show wpAny _ _ _ _ _ { s with heap := copyHeap s.heap us }
  rw [hsz]
  refine wpAny_bind (wpAny_holding (wpAny_call_entry_kw slot_list_sort ⟨_, copyHeap_at s.heap us, rfl⟩ entry_list_sort ?B (k2 _)))
  show wpAny (model prog w) A.in1.in1 (Builtin.«list.sort» ⟨[.ref (s.heap.objs.size + 1)], kw⟩) _ _ _
  refine wpAny_mono (body _ (.inr trivial)) (fun f s' z => ?_) fun _ _ z => z
  obtain ⟨rfl, z⟩ := z
  exact ⟨_, rfl, wpAny_pure ⟨_, rfl, z⟩⟩
end
/-! ### keys -/
/-- a part of a key -/
def RelD : V → PyData → Prop
  | .int n, d => d = .int n
  | .str x, d => d = .str x
  | _, _ => False
theorem reads_of {h : Heap} {v : V} {u : Value} {d : PyData} (r : RelV v u) (e : RelD v d) : Reads h u d [] := by
  cases v <;> try exact e.elim
  · obtain ⟨t, rfl⟩ := r
    obtain rfl := e
    exact .int _ _
  · obtain ⟨t, rfl⟩ := r
    obtain rfl := e
    exact .str _ _
/-- what a call of the key leaves -/
def KeyGot (X : Cx) (pins : List (Addr × Obj)) (σ : L2.St) (H : Hp) (x y : V) (u : Value) (s' : Shared) : Prop :=
  ∃ p H', u = .ref p ∧ Inv X pins σ H' s' ∧ Ext H H' ∧ H' p = some (.tup [x, y])
theorem reads_key {X : Cx} {pins : List (Addr × Obj)} {σ : L2.St} {H : Hp} {s : Shared} {p : Addr} {x y : V} {dx dy : PyData} (I : Inv X pins σ H s) (h : H p = some (.tup [x, y])) (e1 : RelD x dx) (e2 : RelD y dy) : Reads s.heap (.ref p) (.tuple [dx, dy]) [] := by
  obtain ⟨_, its, r, ob, ho, hc, n, hd⟩ := I.hok _ _ h
  obtain ⟨u1, u2, rfl, r1, r2⟩ := vals2 r
  exact .tuple (as := [] ++ ([] ++ [])) ho hc hd (.cons (reads_of r1 e1) (.cons (reads_of r2 e2) .nil))
def gone : Obj := { cls := .none, data := .freed }
theorem get_gone (h : Heap) (b : Addr) : (h.update b fun _ => gone).get? b = none := by
  cases q : (h.update b fun _ => gone).get? b with
  | none => rfl
  | some o =>
    exfalso
    obtain ⟨objs, life⟩ := h
    unfold Heap.get? Heap.update at q
    simp only [gone] at q
    split at q
    · cases q
    · rename_i z
      by_cases hb : b < objs.size
      · simp [hb] at q
        subst q
        exact z .none none #[] (by simp [hb, Array.getElem_modify])
      · simp [hb] at q
/-- one call of the key -/
def KeyCalls (X : Cx) {α : Type} (f : Value) (vf k1 k2 : α → V) (pins : List (Addr × Obj)) (σ : L2.St) (H : Hp) (bs : List α) : Prop :=
  ∀ (b : α) (u : Value) (more : List (Addr × Obj)) (H' : Hp) (s' : Shared), b ∈ bs → RelV (vf b) u → Ext H H' → Inv X (pins ++ more) σ H' s' →
    wpAny (model X.prog X.w) X.A.in1.in1 (call f [u]) (KeyGot X (pins ++ more) σ H' (k1 b) (k2 b)) (fun _ _ => False) s'
section
variable {X : Cx} {α : Type} {pins : List (Addr × Obj)} {σ : L2.St} {H : Hp} {s : Shared} {f : Value} {vf k1 k2 : α → V} {d1 d2 : α → PyData} {bs : List α} {us : List Value} {a kS : Addr} {e1 : Nat}
/-- behind i calls -/
def KeyInv (X : Cx) (pins : List (Addr × Obj)) (σ : L2.St) (H : Hp) (k1 k2 : α → V) (bs : List α) (a kS : Addr) (e1 : Nat) (i : Nat) (s' : Shared) : Prop :=
  ∃ kA e H', Inv X (pins ++ [(kS, seqObj "list" kA e), (a, seqObj "list" #[] e1)]) σ H' s' ∧ Ext H H' ∧ EachIs (fun u b => ∃ p, u = Value.ref p ∧ H' p = some (.tup [k1 b, k2 b])) kA.toList (bs.take i)
theorem pin_at {P : List (Addr × Obj)} (I : Inv X P σ H s) {p : Addr × Obj} (hp : p ∈ P) : s.heap.get? p.1 = some p.2 ∧ H p.1 = none ∧ p.1 ≠ X.env.locals ∧ p.1 ∉ X.fs := by
  obtain ⟨h1, h2, h3, h4, _⟩ := I.pin p (List.mem_append_right _ hp)
  exact ⟨h1, h2, h3, h4⟩
/-- the keys' list has one more -/
theorem KeyInv.push {i : Nat} {b : α} {kA : Array Value} {e : Nat} {H' : Hp} {s' : Shared} {p : Addr} (hb : bs[i]? = some b) (hka : kS ≠ a) (h0 : X.s_0.heap.objs.size ≤ kS) (hc : ∀ x c, X.env.cells.lookup x = some c → c ≠ kS) (hp : ∀ q ∈ X.pn ++ pins, q.1 ≠ kS)
    (I : Inv X (pins ++ [(kS, seqObj "list" kA e), (a, seqObj "list" #[] e1)]) σ H' s') (ex : Ext H H') (g : EachIs (fun u b => ∃ p, u = Value.ref p ∧ H' p = some (.tup [k1 b, k2 b])) kA.toList (bs.take i)) (hk : H' p = some (.tup [k1 b, k2 b])) :
    KeyInv X pins σ H k1 k2 bs a kS e1 (i + 1) { s' with heap := s'.heap.update kS (Obj.mapSeq (·.push (.ref p))) } := by
  have ek : bs.take (i + 1) = bs.take i ++ [b] := by rw [List.take_add_one, hb]; simp
  have ea : (kA.push (.ref p)).toList = kA.toList ++ [Value.ref p] := by simp
  obtain ⟨nk, nH, nL, nF⟩ := pin_at I (p := (kS, seqObj "list" kA e)) (by simp)
  obtain ⟨na, naH, naL, naF⟩ := pin_at I (p := (a, seqObj "list" #[] e1)) (by simp)
  have sb := Heap.SameBut.update s'.heap kS (Obj.mapSeq (·.push (.ref p)))
  obtain ⟨c2, hc2⟩ : ∃ c2, (s'.heap.update kS (Obj.mapSeq (·.push (.ref p)))).get? kS = some (seqObj "list" (kA.push (.ref p)) c2) := ⟨_, get?_update_seq nk (·.push (.ref p))⟩
  have I1 : Inv X pins σ H' s' := I.unpinned
  have I2 : Inv X pins σ H' { s' with heap := s'.heap.update kS (Obj.mapSeq (·.push (.ref p))) } := I1.turned (t' := s'.toks) (fun b o hb q => (sb.2 b hb).trans q) nH nL (.inr h0) hc hp
  refine ⟨kA.push (.ref p), c2, H', I2.pins_of fun q hq => ?_, ex, ?_⟩
  · rcases List.mem_append.mp hq with z | z
    · exact I2.pin q (List.mem_append_right _ z)
    · rcases List.mem_cons.mp z with rfl | z
      · exact ⟨hc2, nH, nL, nF, fun v z => by cases z⟩
      · rcases List.mem_cons.mp z with rfl | z
        · exact ⟨(sb.2 a hka.symm).trans na, naH, naL, naF, fun v z => by cases z⟩
        · cases z
  · rw [ea, ek]
    exact each_snoc ⟨p, rfl, hk⟩ g
theorem KeyInv.size {i : Nat} {kA : Array Value} {H' : Hp} (g : EachIs (fun u b => ∃ p, u = Value.ref p ∧ H' p = some (.tup [k1 b, k2 b])) kA.toList (bs.take i)) : kA.size ≤ bs.length := by
  have z := g.length
  rw [Array.length_toList, List.length_take] at z
  omega
/-- sorted(a tuple, key=f) -/
theorem sorted_tup_key {g : Addr} {Q : Value → Shared → Prop} (I : Inv X pins σ H s) (ha : SqT X.K H a (bs.map vf)) (hf : f = .ref g) (turn : KeyCalls X f vf k1 k2 pins σ H bs)
    (e1 : ∀ b ∈ bs, RelD (k1 b) (d1 b)) (e2 : ∀ b ∈ bs, RelD (k2 b) (d2 b)) (hal : AllAlike (bs.map fun b => .tuple [d1 b, d2 b])) (hu : X.A.units + 3 < cLine)
    (h : ∀ p H1 s', Inv X pins σ (upd H1 p (.lst ((bs.mergeSort (dataLe false fun b => .tuple [d1 b, d2 b])).map vf))) s' → Ext H H1 → H1 p = none → Q (.ref p) s') :
    wpAny (model X.prog X.w) X.A (call (.builtin "sorted") [.ref a] [(PySem.Str.ofString "key", f)]) Q X.xe s := by
  subst hf
  obtain ⟨us, rv, ht, hz⟩ := I.tuple ha
  have hl : us.length = bs.length := by have := rv.length; simpa using this.symm
  rw [List.length_map] at hz
  have hzu : us.length ≤ sizeLine := by omega
  refine sorted_of_tup ht hzu (ksk_s1 _ _) (fun x => ksk_l1 _ _) fun E' _ => ?_
  rw [ksk_t1]
  have ho := copyHeap_at s.heap us
  generalize hA : s.heap.objs.size + 1 = A1 at ho
  have hsA : s.heap.objs.size ≤ A1 := by omega
  have hlt : A1 < (copyHeap s.heap us).objs.size := Heap.lt_size ho
  obtain ⟨ep, ho1⟩ : ∃ ep, ((copyHeap s.heap us).update A1 (Obj.mapSeq fun _ => (#[] : Array Value))).get? A1 = some (seqObj "list" #[] ep) := ⟨_, get?_update_seq ho fun _ => #[]⟩
  unfold ksk_tree
  refine wpAny_bind (listItems_at ho rfl ?_)
  refine wpAny_bind (listUpdate_at ho rfl ?_ (by rw [List.size_toArray]; exact hzu) (Nat.zero_le _))
  refine wpAny_bind (seqEpoch_at ho1 rfl ?_)
  refine wpAny_bind (wpAny_newTuple ?_ (by show us.length ≤ _; exact hzu))
  refine wpAny_bind (wpAny_newList ?_ (Nat.zero_le _))
  refine wpAny_holding ?_
  have hkS : (((copyHeap s.heap us).update A1 (Obj.mapSeq fun _ => (#[] : Array Value))).push (seqObj "tuple" us.toArray 0)).objs.size = (copyHeap s.heap us).objs.size + 1 := by rw [size_push', Heap.size_update]
  have hnk : (sortingHeap (copyHeap s.heap us) A1 us).get? ((copyHeap s.heap us).objs.size + 1) = some (seqObj "list" #[] 0) := by
    rw [← hkS]
    exact Heap.get?_push_size _ rfl
  have hna : (sortingHeap (copyHeap s.heap us) A1 us).get? A1 = some (seqObj "list" #[] ep) := Heap.get?_push_of_some _ (Heap.get?_push_of_some _ ho1)
  show wpAny _ _ (ksk_rest A1 (.ref g) false us.toArray ep (.ref (((copyHeap s.heap us).update A1 (Obj.mapSeq fun _ => (#[] : Array Value))).push (seqObj "tuple" us.toArray 0)).objs.size)) _ _ { s with heap := sortingHeap (copyHeap s.heap us) A1 us }
  rw [hkS]
  generalize hk : (copyHeap s.heap us).objs.size + 1 = kS at hnk
  have hka : kS ≠ A1 := by omega
  have hsk : s.heap.objs.size ≤ kS := by omega
  have I0 : Inv X pins σ H { s with heap := sortingHeap (copyHeap s.heap us) A1 us } := I.kept (t' := s.toks) fun b o q => sortingHeap_old (Nat.ne_of_lt (Nat.lt_of_lt_of_le (Heap.lt_size q) hsA)) (copyHeap_old q)
  have fr : ∀ {b : Addr}, s.heap.objs.size ≤ b → H b = none ∧ b ≠ X.env.locals ∧ b ∉ X.fs ∧ X.s_0.heap.objs.size ≤ b ∧ (∀ x c, X.env.cells.lookup x = some c → c ≠ b) ∧ ∀ q ∈ X.pn ++ pins, q.1 ≠ b := fun {b} hb =>
    ⟨I.hok.fresh hb, Nat.ne_of_gt (Nat.lt_of_lt_of_le I.lt hb), I.nofs hb, Nat.le_trans I.sz hb, fun x c q => by
      obtain ⟨v, o, hc, _⟩ := I.cell x c q
      exact Nat.ne_of_lt (Nat.lt_of_lt_of_le (Heap.lt_size hc) hb), fun q hq => Nat.ne_of_lt (Nat.lt_of_lt_of_le (Heap.lt_size (I.pin q hq).1) hb)⟩
  obtain ⟨k1', k2', k3', k4', k5', k6'⟩ := fr hsk
  obtain ⟨a1', a2', a3', a4', a5', a6'⟩ := fr hsA
  unfold ksk_rest
  refine wpAny_bind (wpAny_rule ?_)
  first
    | rw [List.forIn_toArray]
    | (rw [← Array.forIn_toList]; simp only [List.toList_toArray])
    | rw [← Array.forIn_toList]
  refine wpAny_bind (ksk_fold (fun i s' => KeyInv X pins σ H k1 k2 bs A1 kS ep i s') us 0 _ ?_ ?_ ?_)
  · refine ⟨#[], 0, H, I0.pins_of fun q hq => ?_, Ext.rfl', by rw [List.take_zero]; exact EachIs.nil⟩
    rcases List.mem_append.mp hq with z | z
    · exact I0.pin q (List.mem_append_right _ z)
    · rcases List.mem_cons.mp z with rfl | z
      · exact ⟨hnk, k1', k2', k3', fun v z => by cases z⟩
      · rcases List.mem_cons.mp z with rfl | z
        · exact ⟨hna, a1', a2', a3', fun v z => by cases z⟩
        · cases z
  · rintro j x s' hx ⟨kA, e, H', I1, ex, gk⟩
    rw [Nat.zero_add] at gk ⊢
    have hj : j < us.length := (List.getElem?_eq_some_iff.mp hx).1
    obtain ⟨b, hb⟩ : ∃ b, bs[j]? = some b := ⟨_, List.getElem?_eq_getElem (by omega)⟩
    have rb : RelV (vf b) x := by
      obtain ⟨u, eu, ru⟩ := rv.get (i := j) (x := vf b) (by rw [List.getElem?_map, hb]; rfl)
      rw [hx] at eu
      cases eu
      exact ru
    have zk := KeyInv.size gk
    refine wpAny_bind (wpAny_attempt (wpAny_mono (turn b x _ H' s' (List.mem_of_getElem? hb) rb ex I1) (fun v s'' z => ?_) fun _ _ z => z.elim))
    obtain ⟨p, H2, rfl, I2, ex2, hp⟩ := z
    have nk2 := (pin_at I2 (p := (kS, seqObj "list" kA e)) (by simp)).1
    refine wpAny_bind (listUpdate_at nk2 rfl ?_ (by omega) (by rw [Array.size_push]; omega))
    exact wpAny_pure ⟨rfl, KeyInv.push hb hka k4' k5' k6' I2 (ex.trans ex2) (gk.mono fun u b ⟨p, q1, q2⟩ => ⟨p, q1, ex2 _ _ q2⟩) hp⟩
  · rintro s' ⟨kA, e, H', I1, ex, gk⟩
    have ef : bs.take (0 + us.length) = bs := List.take_of_length_le (by omega)
    rw [ef] at gk
    obtain ⟨nk, nkH, _, _⟩ := pin_at I1 (p := (kS, seqObj "list" kA e)) (by simp)
    obtain ⟨na, naH, _, _⟩ := pin_at I1 (p := (A1, seqObj "list" #[] ep)) (by simp)
    have rd : EachIs (fun u d => ∃ as, Reads s'.heap u d as) kA.toList (bs.map fun b => PyData.tuple [d1 b, d2 b]) := by
      refine each_map (R := fun u d => ∃ as, Reads s'.heap u d as) (fun b => PyData.tuple [d1 b, d2 b]) ?_
      refine EachIs.of_zip gk.length fun q hq => ?_
      obtain ⟨p, z1, z2⟩ := gk.zip q hq
      have hm : q.2 ∈ bs := (List.of_mem_zip hq).2
      rw [z1]
      exact ⟨[], reads_key I1 z2 (e1 _ hm) (e2 _ hm)⟩
    have hks : kA.size = us.length := by
      have z := gk.length
      rw [Array.length_toList] at z
      omega
    refine wpAny_bind (listItems_at nk rfl ?_)
    have S : SortsAt X.prog X.w X.A.in1.in1 s' (dataKind s'.heap (bs.map fun b => PyData.tuple [d1 b, d2 b])) kA.toList := SortsAt.data rd hal (.inl fun d hd => by
      obtain ⟨b, _, rfl⟩ := List.mem_map.mp hd
      exact ⟨_, _, rfl⟩) fun d hd => by
        obtain ⟨b, hb, rfl⟩ := List.mem_map.mp hd
        have z1 : PyData.depth (d1 b) = 0 := by
          have := e1 b hb
          revert this
          cases k1 b <;> intro z <;> first
            | exact z.elim
            | (obtain rfl := z; rfl)
            | (rw [show d1 b = _ from z]; rfl)
        have z2 : PyData.depth (d2 b) = 0 := by
          have := e2 b hb
          revert this
          cases k2 b <;> intro z <;> first
            | exact z.elim
            | (rw [show d2 b = _ from z]; rfl)
        show X.A.in1.in1.units + (max (PyData.depth (d1 b)) (max (PyData.depth (d2 b)) 0) + 1) < cLine
        rw [z1, z2]
        have : X.A.in1.in1.units = X.A.units + 2 := rfl
        rw [this]
        exact hu
    have kp : KeepsBut A1 (s'.heap.update kS fun _ => gone) s'.heap := fun b o hb q => by
      by_cases z : b = kS
      · rw [z, get_gone] at q
        cases q
      · rwa [Heap.get?_update_ne _ _ _ _ z] at q
    refine keyH_end (h₁ := s'.heap.update kS fun _ => gone) kp (get_gone _ _) nk na hka S hks hzu fun h3 tk3 c k3 n3 => ⟨rfl, ?_⟩
    have I2 : Inv X pins σ H' s' := I1.unpinned
    have old : ∀ b o, b ≠ kS → b ≠ A1 → s'.heap.get? b = some o → h3.get? b = some o := fun b o h1 h2 q => k3 b o h2 (by rw [Heap.get?_update_ne _ _ _ _ h1]; exact q)
    have ko : KeyedOut false (bs.map fun b => PyData.tuple [d1 b, d2 b]) us (sortVals (dataKind s'.heap (bs.map fun b => PyData.tuple [d1 b, d2 b])) false kA.toList us) := ⟨s'.heap, kA.toList, hal, rfl, rd⟩
    have ru : EachIs (fun u b => RelV (vf b) u) us bs := by
      refine EachIs.of_zip hl fun q hq => ?_
      obtain ⟨i, hi⟩ := List.getElem?_of_mem hq
      obtain ⟨h1, h2⟩ := List.getElem?_zip_eq_some.mp hi
      obtain ⟨u, eu, ru⟩ := rv.get (i := i) (x := vf q.2) (by rw [List.getElem?_map, h2]; rfl)
      rw [h1] at eu
      cases eu
      exact ru
    have ro := keyedOut_each (k := fun b => PyData.tuple [d1 b, d2 b]) ko ru
    have lo : (sortVals (dataKind s'.heap (bs.map fun b => PyData.tuple [d1 b, d2 b])) false kA.toList us).length ≤ sizeLine := by
      have := ro.length
      rw [List.length_mergeSort] at this
      omega
    generalize sortVals (dataKind s'.heap (bs.map fun b => PyData.tuple [d1 b, d2 b])) false kA.toList us = out at n3 ro lo
    have vo : ∀ {os : List Value} {cs : List α}, EachIs (fun u b => RelV (vf b) u) os cs → Vals (cs.map vf) os := fun {os cs} z => by
      induction z with
      | nil => exact .nil
      | cons h _ ih => exact .cons h ih
    have nH : ∀ b o, H' b = some o → b ≠ kS ∧ b ≠ A1 := fun b o q => ⟨ne_of_none q nkH, ne_of_none q naH⟩
    refine h A1 H' _ (I2.step (g' := s'.gens) (d' := s'.drawn) (t' := tk3) (h' := h3) (H' := upd H' A1 (.lst ((bs.mergeSort (dataLe false fun b => .tuple [d1 b, d2 b])).map vf))) (ch := [kS, A1]) (fun b hb => ?_) (fun b o _ _ hb q _ => ?_) (fun b o _ _ hb q _ => ?_) (fun b o hb q n => ?_) (fun b o hb q => ?_) (fun b xs q => ?_) (fun b o u q => ?_) (fun b ps q => ?_) (fun m hm => ?_) (fun b u q => ?_) I2.bare) ex naH
    · rcases List.mem_cons.mp hb with rfl | hb
      · exact ⟨.inr k4', k2', k5', k6'⟩
      · rcases List.mem_cons.mp hb with rfl | hb
        · exact ⟨.inr a4', a2', a5', a6'⟩
        · cases hb
    · exact old b o (fun z => hb (by simp [z])) (fun z => hb (by simp [z])) q
    · exact ⟨o.slots, old b o (fun z => hb (by simp [z])) (fun z => hb (by simp [z])) q⟩
    · rw [upd_ne (fun z => hb (by simp [z]))]
      exact n
    · exact ⟨o, old b o (fun z => hb (by simp [z])) (fun z => hb (by simp [z])) q⟩
    · rw [upd_ne (nH _ _ q).2]
      exact q
    · rw [upd_ne (nH _ _ q).2]
      exact q
    · exact ⟨#[], by rw [upd_ne (nH _ _ q).2, q]; simp⟩
    · obtain ⟨ob, es, ep', ho', r⟩ := hm
      exact ⟨ob, es, ep', old _ ob (Ne.symm k2') (Ne.symm a2') ho', r⟩
    · by_cases hb : b = A1
      · rw [hb, upd_same] at q
        cases q
        rw [hb]
        refine ⟨?_, out, c, vo ro, n3⟩
        rw [List.length_map, ← ro.length]
        exact lo
      · rw [upd_ne hb] at q
        refine (I2.hok b u q).stay (fun d v hd z => old d v ?_ ?_ z) (fun d z => ?_) fun d xs z => ?_
        · rcases hd with z | z
          · rw [z]
            exact (nH _ _ q).1
          · exact (nH _ _ z).1
        · rcases hd with z | z
          · rw [z]
            exact (nH _ _ q).2
          · exact (nH _ _ z).2
        · rw [upd_ne (nH _ _ z).2]
          exact z
        · rw [upd_ne (nH _ _ z).2]
          exact z
end
end K34
set_option Elab.async false
set_option linter.all false
set_option maxRecDepth 100000
set_option maxHeartbeats 2000000
/-! K34W: whole numbers and Weights. -/
namespace K34
open PySem PySem.Spec PyProof.Rows L2
section
variable {P : Program} {w : World} {K : PySem.W.Frag} {mg : Str → Option Value} {base : Heap}
/-! ### is_whole -/
def spWhole : Sp := fun vs H Q _ => ∃ n : Int, vs = [.int n] ∧ Q (.bl true) H
theorem scWhole : FnScope ["thing"] ["thing"] (defScope (top 17)) := ⟨rfl, rfl, rfl, by decide +kernel, rfl, by decide +kernel, by decide +kernel⟩
theorem ok_whole (Z : Wd K mg) : C8.Cal P w K mg base 1 "is_whole" spWhole [] := by
  refine cal (st := top 17) Z.d_is_whole Z.g_is_whole scWhole (fun vs H Q E h => ?_) (fun _ _ _ _ _ _ us hl => match us, hl with | [_], _ => rfl) fun cdv A outer s H vs Q E hr h => ?_
  · obtain ⟨n, rfl, _⟩ := h
    rfl
  · obtain ⟨n, rfl, q⟩ := h
    refine ⟨_, PSs.nox (pss_one (ps_ret (pe_and (pe_callB call_isi (by rfl) Z.f_isinstance (by decide +kernel) (pa_cons (pv 0) (pa_cons (pe_bltn (by rfl) Z.f_int (by decide +kernel) (v := .ty "int") rfl) pa_nil)))
      (pe_one (pe_not (pe_callB call_isi (by rfl) Z.f_isinstance (by decide +kernel) (pa_cons (pv 0) (pa_cons (pe_bltn (by rfl) Z.f_bool (by decide +kernel) (v := .ty "bool") rfl) pa_nil)))))))), ?_⟩
    refine ⟨_, rfl, _, _, _, _, true, rfl, .ty _, .base (.int n), kit_ty (by decide +kernel), _, rfl, iteT ?_⟩
    exact ⟨_, rfl, _, _, _, _, false, rfl, .ty _, .base (.int n), kit_ty (by decide +kernel), _, rfl, q⟩
/-! ### divisor_of -/
def spDiv : Sp := fun vs H Q _ => ∃ a b : Int, vs = [.int a, .int b] ∧ 0 ≤ a ∧ 0 ≤ b ∧ Q (.int (Int.gcd a b)) H
theorem scDiv : FnScope ["one", "other"] ["one", "other"] (defScope (top 24)) := ⟨rfl, rfl, rfl, by decide +kernel, rfl, by decide +kernel, by decide +kernel⟩
def PvDiv (H0 : Hp) (g : Nat) (σ : L2.St) (H : Hp) : Prop := H = H0 ∧ ∃ a b : Int, σ = [some (.int a), some (.int b)] ∧ 0 ≤ a ∧ 0 ≤ b ∧ Int.gcd a b = g
def muDiv (σ : L2.St) (H : Hp) : Nat := match σ[1]? with
  | some (some (V.int b)) => b.natAbs
  | _ => 0
theorem gcd_step {a b : Int} (ha : 0 ≤ a) (hb : 0 ≤ b) (h : b ≠ 0) : 0 ≤ a.fmod b ∧ (a.fmod b).natAbs < b.natAbs ∧ Int.gcd b (a.fmod b) = Int.gcd a b := by
  have e : a.fmod b = a % b := Int.fmod_eq_emod_of_nonneg a hb
  have h1 := Int.emod_nonneg a h
  have h2 := Int.emod_lt_of_pos a (show 0 < b by omega)
  rw [e]
  refine ⟨h1, by omega, ?_⟩
  obtain ⟨m, rfl⟩ := Int.eq_ofNat_of_zero_le ha
  obtain ⟨n, rfl⟩ := Int.eq_ofNat_of_zero_le hb
  rw [Int.gcd_comm]
  show Nat.gcd ((m : Int) % (n : Int)).natAbs n = Nat.gcd m n
  rw [show ((m : Int) % (n : Int)).natAbs = m % n from rfl, ← Nat.gcd_rec, Nat.gcd_comm]
theorem ok_div (Z : Wd K mg) : C8.Cal P w K mg base 1 "divisor_of" spDiv [] := by
  refine cal (st := top 24) Z.d_divisor_of Z.g_divisor_of scDiv (fun vs H Q E h => ?_) (fun _ _ _ _ _ _ us hl => match us, hl with | [_, _], _ => rfl) fun cdv A outer s H vs Q E hr h => ?_
  · obtain ⟨a, b, rfl, _⟩ := h
    rfl
  · obtain ⟨a, b, rfl, ha, hb, q⟩ := h
    refine ⟨_, PSs.nox (pss_cons (ps_while PassesOwn.never (pt_cmpR op_ne (pv 1) pe_int (nomark _)) (pss_one (ps_par (by rfl) scDiv.nd (i := 0) (j := 1) rfl rfl (by decide) rfl rfl (pa_cons (pv 1) (pa_cons (pe_op op_modN (pv 0) (pv 1)) pa_nil)) (by rfl))))
      (pss_one (ps_ret (pv 0)))), ?_⟩
    refine while_by (PvDiv H (Int.gcd a b)) muDiv ⟨rfl, a, b, rfl, ha, hb, rfl⟩ ?_ ?_
    · rintro σ H1 ⟨rfl, a1, b1, rfl, h1, h2, h3⟩
      refine ⟨_, rfl, rfl, _, rfl, ?_⟩
      by_cases z : b1 = 0
      · subst z
        refine iteF ?_
        refine ⟨_, rfl, ?_⟩
        have e : ((Int.gcd a b : Nat) : Int) = a1 := by
          rw [← h3, Int.gcd_zero_right]
          omega
        rw [e] at q
        exact q
      · have zz : ¬ V.int b1 = V.int 0 := fun y => z (by injection y)
        rw [decide_eq_false zz]
        refine iteT ?_
        obtain ⟨g1, g2, g3⟩ := gcd_step h1 h2 z
        refine ⟨_, rfl, _, rfl, _, rfl, _, _, rfl, rfl, z, _, _, rfl, ⟨rfl, _, _, rfl, h2, g1, g3.trans h3⟩, g2⟩
    · rintro σ H1 Q1 Q2 hq ⟨v, e, e2, k, ek, z⟩
      exact ⟨v, e, e2, k, ek, hq _ _ z⟩
/-! ### Weights in the heap -/
abbrev CW (K : PySem.W.Frag) : Addr := He.ga K "Weight"
/-- at p stands a Weight of this value -/
def WAt (K : PySem.W.Frag) (H : Hp) (p : Addr) (q : Rat) : Prop := ∃ dx, H p = some (.ins (CW K) dx [("top", .int q.num), ("bottom", .int q.den)])
theorem WAt.ext {H H' : Hp} {p : Addr} {q : Rat} (a : WAt K H p q) (e : Ext H H') : WAt K H' p q := let ⟨dx, h⟩ := a; ⟨dx, e _ _ h⟩
theorem WAt.extN {H H' : Hp} {p : Addr} {q : Rat} (a : WAt K H p q) (e : LamX.ExtN H H') : WAt K H' p q := let ⟨dx, h⟩ := a; ⟨dx, e _ _ h fun ps z => by cases z⟩
theorem WAt.inj {H : Hp} {p : Addr} {q r : Rat} (a : WAt K H p q) (b : WAt K H p r) : q = r := by
  obtain ⟨dx, h⟩ := a
  obtain ⟨dy, g⟩ := b
  rw [h] at g
  injection g with g
  injection g with _ _ g
  injection g with g1 g
  injection g with g2 _
  injection g1 with _ g1
  injection g2 with _ g2
  injection g1 with g1
  injection g2 with g2
  exact Rat.ext g1 (by omega)
/-- how far things grow: bits -/
abbrev SzM : Nat := 8000
theorem nxt {D : Ends} {σ : L2.St} {H : Hp} (h : D.nx σ H) : tNext D σ H := h
/-! ### Weight(top, bottom) -/
def spWi (K : PySem.W.Frag) : Sp := fun vs H Q _ => ∃ (p : Addr) (t b : Int) (dx : Addr), vs = [.ref p, .int t, .int b] ∧ 0 ≤ t ∧ 1 ≤ b ∧ t.natAbs < 2 ^ 200000 ∧ b.natAbs < 2 ^ 8900 ∧ H p = some (.ins (CW K) dx []) ∧
  Q .non (upd H p (.ins (CW K) dx [("top", .int (Rat.divInt t b).num), ("bottom", .int (Rat.divInt t b).den)]))
theorem scWi : FnScope ["self", "top", "bottom", "by"] ["self", "top", "bottom"] (defScope (inClass (top 25) 0)) := ⟨rfl, rfl, rfl, by decide +kernel, rfl, by decide +kernel, by decide +kernel⟩
theorem body_wi (Z : Wd K mg) : Body P w K mg base C8.CX0 ["self", "top", "bottom", "by"] 1 "Weight.__init__" (inClass (top 25) 0) (He.ma K (He.ga K "Weight") "__init__") (spWi K) := by
  intro cdv A outer s H vs Q E hr h
  obtain ⟨p, t, b, dx, rfl, ht, hb, zt, zb, hp, q⟩ := h
  have cW := ok_whole (P := P) (w := w) (base := base) Z
  have cD := ok_div (P := P) (w := w) (base := base) Z
  refine ⟨_, PSs.nox (pss_cons (ps_if (PW.pt (pw_and (pt_val (C8.pe_c cW hr (by decide) (by rfl) (pa_cons (pv 2) pa_nil))) (pw_and1 (pt_cmpR op_eq (pv 2) pe_int (nomark _))))) pss_never pss_nil)
    (pss_cons (ps_if (PW.pt (pw_or (pt_not (pt_val (C8.pe_c cW hr (by decide) (by rfl) (pa_cons (pv 1) pa_nil)))) (pw_or (pt_not (pt_val (C8.pe_c cW hr (by decide) (by rfl) (pa_cons (pv 2) pa_nil)))) (pw_or (pt_cmpR op_lt (pv 1) pe_int (nomark _)) (pw_or1 (pt_cmpR op_lt (pv 2) pe_int (nomark _))))))) pss_never pss_nil)
    (pss_cons (ps_set (i := 3) scWi.nd rfl (.inl rfl) (C8.pe_c cD hr (by decide) (by rfl) (pa_cons (pv 1) (pa_cons (pv 2) pa_nil))))
    (pss_cons (ps_fld (pv 0) (pe_op op_fdivW (pv 1) (pv 3)) rfl) (pss_one (ps_fld (pv 0) (pe_op op_fdivW (pv 2) (pv 3)) rfl)))))), ?_⟩
  have hg : 0 < Int.gcd t b := Int.gcd_pos_of_ne_zero_right t (by omega)
  have gb : Int.gcd t b ≤ b.natAbs := Nat.le_of_dvd (by omega) (Int.gcd_dvd_natAbs_right t b)
  have zg : ((Int.gcd t b : Nat) : Int).natAbs < 2 ^ 8900 := by
    show Int.gcd t b < 2 ^ 8900
    omega
  have b0 : ¬ V.int b = V.int 0 := fun y => by
    injection y with y
    omega
  refine ⟨_, rfl, b, rfl, true, rfl, iteT ⟨_, rfl, rfl, _, rfl, ?_⟩⟩
  rw [decide_eq_false b0]
  refine iteF (nxt ?_)
  refine ⟨_, rfl, t, rfl, true, rfl, iteF ⟨_, rfl, b, rfl, true, rfl, iteF ⟨_, rfl, _, _, rfl, rfl, _, rfl, ?_⟩⟩⟩
  rw [decide_eq_false (show ¬ t < 0 by omega)]
  refine iteF ⟨_, rfl, _, _, rfl, rfl, _, rfl, ?_⟩
  rw [decide_eq_false (show ¬ b < 1 by omega)]
  refine iteF (nxt ?_)
  refine ⟨_, rfl, _, rfl, t, b, rfl, ht, by omega, ?_⟩
  refine ⟨_, rfl, _, rfl, _, _, rfl, rfl, wide_div (by omega) zg (by decide) (by decide), _, rfl, p, _, dx, _, rfl, hp, Z.cl_Weight, Z.n_Weight_top, (by show 0 < 1000; decide), ?_⟩
  refine ⟨_, rfl, _, rfl, _, _, rfl, rfl, wide_div (by omega) zg (by decide) (by decide), _, rfl, p, _, dx, _, rfl, upd_same, Z.cl_Weight, Z.n_Weight_bottom, (by show 1 < 1000; decide), ?_⟩
  obtain ⟨e1, e2⟩ := num_mk t b (by omega)
  rw [upd_upd]
  rw [e1, e2] at q
  exact q
theorem len_wi : Len 3 (spWi K) := fun vs H Q E h => by
  obtain ⟨p, t, b, dx, rfl, _⟩ := h
  rfl
theorem mak_w (Z : Wd K mg) : C8.Mak P w K mg base 2 "Weight" (CW K) (spWi K) [] := by
  obtain ⟨fd, F⟩ := Z.d_Weight___init__
  obtain ⟨ds, hv, hb⟩ := FunD.binds1 (ps := ["self", "top", "bottom"]) F 3 1 (by intro z; cases z) rfl fun T kV doc pm an cdv ct us its h1 h2 => match us, its, h1, h2 with
    | [_, _, _], [_], _, _ => ⟨_, rfl, rfl⟩
  exact ⟨_, fd, _, ds, Z.mk_Weight, F.ok scWi len_wi (body_wi Z), Z.g_Weight, hb, hv⟩
theorem mak_w1 (Z : Wd K mg) : C8.Mak P w K mg base 2 "Weight" (CW K) (spWi K) [.int 1] := by
  obtain ⟨fd, F⟩ := Z.d_Weight___init__
  obtain ⟨ds, hv, hb⟩ := FunD.binds1 (ps := ["self", "top", "bottom"]) F 2 0 (by intro z; cases z) rfl fun T kV doc pm an cdv ct us its h1 h2 => match us, its, h1, h2 with
    | [_, _], [_], _, _ => ⟨_, rfl, rfl⟩
  exact ⟨_, fd, _, ds, Z.mk_Weight, F.ok scWi len_wi (body_wi Z), Z.g_Weight, hb, hv⟩
end
/-! ### an instance made, by what is told of it -/
section
variable {X : Cx} {k j : Nat} {C : Addr} {x : Str} {sp : Sp} {dvs : List V} {p pos : Pos} {e : Expr} {es : List Expr} {t : TA}
theorem pe_mkI {R : List V → Hp → VK → Prop} (c : C8.Mak X.prog X.w X.K X.mg X.base k x C sp dvs) (hr : Room j X.A) (hk : k + 1 ≤ j) (hg : Gl X x)
    (imp : ∀ vs H Q, R vs H Q → ∀ a dx, H a = none → H dx = none → dx ≠ a → sp (.ref a :: (vs ++ dvs)) (upd (upd H dx (.own a)) a (.ins C dx [])) (fun v H2 => v = .non ∧ Q (.ref a) H2) C8.E0) (ha : PA X (e :: es) t)
    (hdb : (x == ("__debug__" : Str)) = false := by decide) (he : starEach (e :: es) X.env = (false, eval e X.env) :: starEach es X.env := by rfl) (hpl : (backTo pos (starEach es X.env)).any (·.1) = false := by rfl) :
    PE X (.Call (.Name x p) (e :: es) [] pos) (fun σ H Q => t σ H fun vs H1 => R vs H1 Q) := by
  obtain ⟨fI, fdI, psI, dsI, mk, ok, mgx, bI, dI⟩ := c.ex
  refine ⟨fun pins s σ H Q I q0 => ?_⟩
  refine wpAny_Call_Name_kw (ld_glob I hg mgx ?_ hdb)
  refine PySem.W.callWith_K (h₀ := X.base) I.ok.mod.kin mk.kp (thn (ha.run pos pins s σ H _ I q0) fun us s1 ⟨vs, H1, I1, rv, q1⟩ => ⟨I1.kIn, ?_⟩) he hpl
  exact run_make mk ok (hr.mono hk) bI dI C8.pass0 I1 rv (imp _ _ _ q1)
end
/-- a new Weight of a and b -/
def rW (K : PySem.W.Frag) : List V → Hp → VK → Prop := fun vs H Q => ∃ a b : Int, vs = [.int a, .int b] ∧ 0 ≤ a ∧ 1 ≤ b ∧ a.natAbs < 2 ^ 200000 ∧ b.natAbs < 2 ^ 8900 ∧ ∀ p H', Ext H H' → H p = none → WAt K H' p (Rat.divInt a b) → Q (.ref p) H'
def rW1 (K : PySem.W.Frag) : List V → Hp → VK → Prop := fun vs H Q => ∃ a : Int, vs = [.int a] ∧ 0 ≤ a ∧ a.natAbs < 2 ^ 200000 ∧ ∀ p H', Ext H H' → H p = none → WAt K H' p a → Q (.ref p) H'
theorem ext_new {H : Hp} {a dx : Addr} {o o' u : HO} (h1 : H a = none) (h2 : H dx = none) : Ext H (upd (upd (upd H dx o) a o') a u) := fun b z e => by
  rw [upd_upd, upd_ne (ne_of_none e h1), upd_ne (ne_of_none e h2)]
  exact e
theorem rW_imp {K : PySem.W.Frag} (vs : List V) (H : Hp) (Q : VK) (h : rW K vs H Q) (a dx : Addr) (ha : H a = none) (hd : H dx = none) (ne : dx ≠ a) :
    spWi K (.ref a :: (vs ++ [])) (upd (upd H dx (.own a)) a (.ins (CW K) dx [])) (fun v H2 => v = .non ∧ Q (.ref a) H2) C8.E0 := by
  obtain ⟨i, j, rfl, h1, h2, h3, h4, q⟩ := h
  exact ⟨a, i, j, dx, rfl, h1, h2, h3, h4, upd_same, rfl, q a _ (ext_new ha hd) ha ⟨dx, upd_same⟩⟩
theorem rW1_imp {K : PySem.W.Frag} (vs : List V) (H : Hp) (Q : VK) (h : rW1 K vs H Q) (a dx : Addr) (ha : H a = none) (hd : H dx = none) (ne : dx ≠ a) :
    spWi K (.ref a :: (vs ++ [.int 1])) (upd (upd H dx (.own a)) a (.ins (CW K) dx [])) (fun v H2 => v = .non ∧ Q (.ref a) H2) C8.E0 := by
  obtain ⟨i, rfl, h1, h3, q⟩ := h
  refine ⟨a, i, 1, dx, rfl, h1, by decide, h3, Nat.lt_of_lt_of_le (show 1 < 2 ^ 1 by decide) (Nat.pow_le_pow_right (by decide) (by decide)), upd_same, rfl, q a _ (ext_new ha hd) ha ⟨dx, ?_⟩⟩
  rw [upd_same, int_val]
section
variable {P : Program} {w : World} {K : PySem.W.Frag} {mg : Str → Option Value} {base : Heap}
theorem top_of : List.lookup ("top" : Str) [(("top" : Str), V.int a), ("bottom", V.int b)] = some (V.int a) := rfl
/-! ### plus, less, times -/
def spPlus (K : PySem.W.Frag) : Sp := fun vs H Q _ => ∃ (a b : Addr) (q r : Rat) (n m : Nat), vs = [.ref a, .ref b] ∧ WAt K H a q ∧ WAt K H b r ∧ 0 ≤ q ∧ 0 ≤ r ∧ Sz n q ∧ Sz m r ∧ 0 < n ∧ 0 < m ∧ n + m ≤ 8000 ∧
  ∀ p H', Ext H H' → H p = none → WAt K H' p (q + r) → Q (.ref p) H'
def spLess (K : PySem.W.Frag) : Sp := fun vs H Q _ => ∃ (a b : Addr) (q r : Rat) (n m : Nat), vs = [.ref a, .ref b] ∧ WAt K H a q ∧ WAt K H b r ∧ 0 ≤ r ∧ r ≤ q ∧ Sz n q ∧ Sz m r ∧ 0 < n ∧ 0 < m ∧ n + m ≤ 8000 ∧
  ∀ p H', Ext H H' → H p = none → WAt K H' p (q - r) → Q (.ref p) H'
def spTimes (K : PySem.W.Frag) : Sp := fun vs H Q _ => ∃ (a : Addr) (q : Rat) (t b : Int) (n m k : Nat), vs = [.ref a, .int t, .int b] ∧ WAt K H a q ∧ 0 ≤ q ∧ 0 ≤ t ∧ 1 ≤ b ∧ Sz n q ∧ t.natAbs < 2 ^ m ∧ b.natAbs < 2 ^ k ∧ 0 < n ∧ 0 < m ∧ 0 < k ∧ n + m + k ≤ 8000 ∧
  ∀ p H', Ext H H' → H p = none → WAt K H' p (q * t / b) → Q (.ref p) H'
theorem scPlus : FnScope ["self", "other"] ["self", "other"] (defScope (inClass (top 25) 4)) := ⟨rfl, rfl, rfl, by decide +kernel, rfl, by decide +kernel, by decide +kernel⟩
theorem scLess : FnScope ["self", "other", "left"] ["self", "other"] (defScope (inClass (top 25) 5)) := ⟨rfl, rfl, rfl, by decide +kernel, rfl, by decide +kernel, by decide +kernel⟩
theorem scTimes : FnScope ["self", "top", "bottom"] ["self", "top", "bottom"] (defScope (inClass (top 25) 6)) := ⟨rfl, rfl, rfl, by decide +kernel, rfl, by decide +kernel, by decide +kernel⟩
theorem pow_lt {a n m : Nat} (h : a < 2 ^ n) (hm : n ≤ m) : a < 2 ^ m := Nat.lt_of_lt_of_le h (Nat.pow_le_pow_right (by decide) hm)
theorem met_plus (Z : Wd K mg) : C8.Met P w K mg base 4 (CW K) "plus" (spPlus K) [] := by
  refine met (C := "Weight") (st := inClass (top 25) 4) Z.d_Weight_plus Z.cl_Weight Z.m_Weight_plus scPlus (fun vs H Q E h => ?_) (fun _ _ _ _ _ _ us hl => match us, hl with | [_, _], _ => rfl) fun cdv A outer s H vs Q E hr h => ?_
  · obtain ⟨a, b, q, r, n, m, rfl, _⟩ := h
    rfl
  · obtain ⟨a, b, q, r, n, m, rfl, ⟨dx, ha⟩, ⟨dy, hb⟩, hq, hr0, zq, zr, n0, m0, nm, k⟩ := h
    refine ⟨_, PSs.nox (pss_one (ps_ret (pe_mkI (mak_w (P := P) (w := w) (base := base) Z) hr (by decide) (by rfl) rW_imp (pa_cons (pe_op op_add (pe_op op_mulW (pe_fld (pv 0) rfl) (pe_fld (pv 1) rfl)) (pe_op op_mulW (pe_fld (pv 1) rfl) (pe_fld (pv 0) rfl)))
      (pa_cons (pe_op op_mulW (pe_fld (pv 0) rfl) (pe_fld (pv 1) rfl)) pa_nil))))), ?_⟩
    obtain ⟨s1, s2, s3⟩ := zq.add zr
    refine ⟨_, rfl, a, _, dx, _, _, rfl, ha, Z.cl_Weight, Z.n_Weight_top, rfl, _, rfl, b, _, dy, _, _, rfl, hb, Z.cl_Weight, Z.n_Weight_bottom, rfl, _, _, rfl, rfl, wide_mul zq.1 (show (r.den : Int).natAbs < 2 ^ m from zr.2) n0 m0 (by omega), ?_⟩
    refine ⟨_, rfl, b, _, dy, _, _, rfl, hb, Z.cl_Weight, Z.n_Weight_top, rfl, _, rfl, a, _, dx, _, _, rfl, ha, Z.cl_Weight, Z.n_Weight_bottom, rfl, _, _, rfl, rfl, wide_mul zr.1 (show (q.den : Int).natAbs < 2 ^ n from zq.2) m0 n0 (by omega), ?_⟩
    refine ⟨_, _, rfl, rfl, ?_⟩
    refine ⟨_, rfl, a, _, dx, _, _, rfl, ha, Z.cl_Weight, Z.n_Weight_bottom, rfl, _, rfl, b, _, dy, _, _, rfl, hb, Z.cl_Weight, Z.n_Weight_bottom, rfl, _, _, rfl, rfl, wide_mul (show (q.den : Int).natAbs < 2 ^ n from zq.2) (show (r.den : Int).natAbs < 2 ^ m from zr.2) n0 m0 (by omega), ?_⟩
    have p1 := q.den_pos
    have p2 := r.den_pos
    have g1 := Int.mul_nonneg (num_nn hq) (show (0 : Int) ≤ r.den by omega)
    have g2 := Int.mul_nonneg (num_nn hr0) (show (0 : Int) ≤ q.den by omega)
    have g3 : (0 : Int) < (q.den : Int) * r.den := Int.mul_pos (by omega) (by omega)
    refine ⟨_, _, rfl, by omega, by omega, pow_lt s1 (by omega), pow_lt s2 (by omega), fun p H' e np wp => k p H' e np ?_⟩
    rw [← add_val]
    exact wp
theorem met_less (Z : Wd K mg) : C8.Met P w K mg base 4 (CW K) "less" (spLess K) [] := by
  refine met (C := "Weight") (st := inClass (top 25) 5) Z.d_Weight_less Z.cl_Weight Z.m_Weight_less scLess (fun vs H Q E h => ?_) (fun _ _ _ _ _ _ us hl => match us, hl with | [_, _], _ => rfl) fun cdv A outer s H vs Q E hr h => ?_
  · obtain ⟨a, b, q, r, n, m, rfl, _⟩ := h
    rfl
  · obtain ⟨a, b, q, r, n, m, rfl, ⟨dx, ha⟩, ⟨dy, hb⟩, hr0, hq, zq, zr, n0, m0, nm, k⟩ := h
    refine ⟨_, PSs.nox (pss_cons (ps_set (i := 2) scLess.nd rfl (.inl rfl) (pe_op op_sub (pe_op op_mulW (pe_fld (pv 0) rfl) (pe_fld (pv 1) rfl)) (pe_op op_mulW (pe_fld (pv 1) rfl) (pe_fld (pv 0) rfl))))
      (pss_cons (ps_if (pt_cmpR op_lt (pv 2) pe_int (nomark _)) pss_never pss_nil)
      (pss_one (ps_ret (pe_mkI (mak_w (P := P) (w := w) (base := base) Z) hr (by decide) (by rfl) rW_imp (pa_cons (pv 2) (pa_cons (pe_op op_mulW (pe_fld (pv 0) rfl) (pe_fld (pv 1) rfl)) pa_nil))))))), ?_⟩
    obtain ⟨s1, s2, s3⟩ := zq.sub zr
    refine ⟨_, rfl, a, _, dx, _, _, rfl, ha, Z.cl_Weight, Z.n_Weight_top, rfl, _, rfl, b, _, dy, _, _, rfl, hb, Z.cl_Weight, Z.n_Weight_bottom, rfl, _, _, rfl, rfl, wide_mul zq.1 (show (r.den : Int).natAbs < 2 ^ m from zr.2) n0 m0 (by omega), ?_⟩
    refine ⟨_, rfl, b, _, dy, _, _, rfl, hb, Z.cl_Weight, Z.n_Weight_top, rfl, _, rfl, a, _, dx, _, _, rfl, ha, Z.cl_Weight, Z.n_Weight_bottom, rfl, _, _, rfl, rfl, wide_mul zr.1 (show (q.den : Int).natAbs < 2 ^ n from zq.2) m0 n0 (by omega), ?_⟩
    have g1 := le_num hq
    refine ⟨_, _, rfl, rfl, _, rfl, _, _, rfl, rfl, _, rfl, ?_⟩
    rw [decide_eq_false (show ¬ q.num * r.den - r.num * q.den < 0 by omega)]
    refine iteF (nxt ?_)
    refine ⟨_, rfl, _, rfl, a, _, dx, _, _, rfl, ha, Z.cl_Weight, Z.n_Weight_bottom, rfl, _, rfl, b, _, dy, _, _, rfl, hb, Z.cl_Weight, Z.n_Weight_bottom, rfl, _, _, rfl, rfl, wide_mul (show (q.den : Int).natAbs < 2 ^ n from zq.2) (show (r.den : Int).natAbs < 2 ^ m from zr.2) n0 m0 (by omega), ?_⟩
    have p1 := q.den_pos
    have p2 := r.den_pos
    have g3 : (0 : Int) < (q.den : Int) * r.den := Int.mul_pos (by omega) (by omega)
    refine ⟨_, _, rfl, by omega, by omega, pow_lt s1 (by omega), pow_lt s2 (by omega), fun p H' e np wp => k p H' e np ?_⟩
    rw [← sub_val]
    exact wp
theorem met_times (Z : Wd K mg) : C8.Met P w K mg base 4 (CW K) "times" (spTimes K) [] := by
  obtain ⟨fd, F⟩ := Z.d_Weight_times
  obtain ⟨ds, hv, hb⟩ := FunD.binds1 (ps := ["self", "top", "bottom"]) F 3 1 (by intro z; cases z) rfl fun T kV doc pm an cdv ct us its h1 h2 => match us, its, h1, h2 with
    | [_, _, _], [_], _, _ => ⟨_, rfl, rfl⟩
  refine ⟨_, fd, _, ds, Z.cl_Weight, Z.m_Weight_times, F.ok scTimes (fun vs H Q E h => ?_) (fun cdv A outer s H vs Q E hr h => ?_), hb, hv⟩
  · obtain ⟨a, q, t, b, n, m, k, rfl, _⟩ := h
    rfl
  · obtain ⟨a, q, t, b, n, m, k, rfl, ⟨dx, ha⟩, hq, ht, hb1, zq, zt, zb, n0, m0, k0, nm, kk⟩ := h
    refine ⟨_, PSs.nox (pss_one (ps_ret (pe_mkI (mak_w (P := P) (w := w) (base := base) Z) hr (by decide) (by rfl) rW_imp (pa_cons (pe_op op_mulW (pe_fld (pv 0) rfl) (pv 1))
      (pa_cons (pe_op op_mulW (pe_fld (pv 0) rfl) (pv 2)) pa_nil))))), ?_⟩
    obtain ⟨s1, s2, s3⟩ := zq.mul zt zb (by omega)
    refine ⟨_, rfl, a, _, dx, _, _, rfl, ha, Z.cl_Weight, Z.n_Weight_top, rfl, _, rfl, _, _, rfl, rfl, wide_mul zq.1 zt n0 m0 (by omega), ?_⟩
    refine ⟨_, rfl, a, _, dx, _, _, rfl, ha, Z.cl_Weight, Z.n_Weight_bottom, rfl, _, rfl, _, _, rfl, rfl, wide_mul (show (q.den : Int).natAbs < 2 ^ n from zq.2) zb n0 k0 (by omega), ?_⟩
    have p1 := q.den_pos
    have g1 := Int.mul_nonneg (num_nn hq) ht
    have g3 : (0 : Int) < (q.den : Int) * b := Int.mul_pos (by omega) (by omega)
    refine ⟨_, _, rfl, g1, by omega, pow_lt s1 (by omega), pow_lt s2 (by omega), fun p H' e np wp => kk p H' e np ?_⟩
    rw [← mul_val q t b (by omega)]
    exact wp
end
end K34
set_option Elab.async false
set_option linter.all false
set_option maxRecDepth 100000
set_option maxHeartbeats 2000000
/-! K34W2: Weight's ==, comparisons, total. -/
namespace K34
open PySem PySem.Spec PyProof.Rows L2
section
variable {P : Program} {w : World} {K : PySem.W.Frag} {mg : Str → Option Value} {base : Heap}
theorem scEq : FnScope ["self", "other"] ["self", "other"] (defScope (inClass (top 25) 1)) := ⟨rfl, rfl, rfl, by decide +kernel, rfl, by decide +kernel, by decide +kernel⟩
/-- two Weights of one value -/
def SameW (K : PySem.W.Frag) (a b : Addr) (H : Hp) : Prop := ∃ q, WAt K H a q ∧ WAt K H b q
/-- == of such -/
structure EqC (P : Program) (w : World) (K : PySem.W.Frag) (mg : Str → Option Value) (base : Heap) : Prop where
  ex : ∃ fd, FnOk P w K mg base C8.CX0 1 (He.ma K (CW K) "__eq__") fd ["self", "other"] (spEq (SameW K)) ∧ Binds K fd ["self", "other"] []
theorem eqc (Z : Wd K mg) : EqC P w K mg base := by
  obtain ⟨fd, F⟩ := Z.d_Weight___eq__
  refine ⟨fd, F.ok scEq (fun vs H Q E h => ?_) (fun cdv A outer s H vs Q E hr h => ?_), F.bindsN fun _ _ _ _ _ _ us hl => match us, hl with | [_, _], _ => rfl⟩
  · obtain ⟨a, b, rfl, _⟩ := h
    rfl
  · obtain ⟨a, b, rfl, ⟨q, ⟨dx, ha⟩, ⟨dy, hb⟩⟩, k⟩ := h
    refine ⟨_, PSs.nox (pss_one (ps_ret (pe_and (pe_callB (C8.call_isC Z.we.i) (by rfl) Z.f_isinstance (by decide +kernel) (pa_cons (pv 1) (pa_cons (C8.pe_gc (by rfl) ⟨_, Z.g_Weight, rfl⟩ (v := .ref (CW K))) pa_nil)))
      (pe_and (pe_cmpR op_eq (pe_fld (pv 0) rfl) (pe_fld (pv 1) rfl) (nomark _)) (pe_one (pe_cmpR op_eq (pe_fld (pv 0) rfl) (pe_fld (pv 1) rfl) (nomark _))))))), ?_⟩
    refine ⟨_, rfl, b, dy, _, rfl, hb, _, rfl, iteT ?_⟩
    refine ⟨_, rfl, a, _, dx, _, _, rfl, ha, Z.cl_Weight, Z.n_Weight_top, rfl, _, rfl, b, _, dy, _, _, rfl, hb, Z.cl_Weight, Z.n_Weight_top, rfl, rfl, ?_⟩
    refine ⟨_, rfl, ?_⟩
    rw [decide_eq_true rfl]
    refine iteT ?_
    refine ⟨_, rfl, a, _, dx, _, _, rfl, ha, Z.cl_Weight, Z.n_Weight_bottom, rfl, _, rfl, b, _, dy, _, _, rfl, hb, Z.cl_Weight, Z.n_Weight_bottom, rfl, rfl, ?_⟩
    rw [decide_eq_true rfl]
    exact k H fun _ _ z => z
def spBelow (K : PySem.W.Frag) : Sp := fun vs H Q _ => ∃ (a b : Addr) (q r : Rat) (n m : Nat), vs = [.ref a, .ref b] ∧ WAt K H a q ∧ WAt K H b r ∧ Sz n q ∧ Sz m r ∧ 0 < n ∧ 0 < m ∧ n + m ≤ 8000 ∧ Q (.bl (decide (q < r))) H
def spNought (K : PySem.W.Frag) : Sp := fun vs H Q _ => ∃ (a : Addr) (q : Rat), vs = [.ref a] ∧ WAt K H a q ∧ Q (.bl (decide (q = 0))) H
def spUp (K : PySem.W.Frag) : Sp := fun vs H Q _ => ∃ (a : Addr) (q : Rat) (n : Nat), vs = [.ref a] ∧ WAt K H a q ∧ 0 ≤ q ∧ Sz n q ∧ 0 < n ∧ n ≤ 8000 ∧ ∀ i : Int, 0 ≤ i → Q (.int i) H
theorem scBelow : FnScope ["self", "other"] ["self", "other"] (defScope (inClass (top 25) 7)) := ⟨rfl, rfl, rfl, by decide +kernel, rfl, by decide +kernel, by decide +kernel⟩
theorem scNought : FnScope ["self"] ["self"] (defScope (inClass (top 25) 8)) := ⟨rfl, rfl, rfl, by decide +kernel, rfl, by decide +kernel, by decide +kernel⟩
theorem scUp : FnScope ["self"] ["self"] (defScope (inClass (top 25) 9)) := ⟨rfl, rfl, rfl, by decide +kernel, rfl, by decide +kernel, by decide +kernel⟩
theorem met_below (Z : Wd K mg) : C8.Met P w K mg base 1 (CW K) "is_below" (spBelow K) [] := by
  refine met (C := "Weight") (st := inClass (top 25) 7) Z.d_Weight_is_below Z.cl_Weight Z.m_Weight_is_below scBelow (fun vs H Q E h => ?_) (fun _ _ _ _ _ _ us hl => match us, hl with | [_, _], _ => rfl) fun cdv A outer s H vs Q E hr h => ?_
  · obtain ⟨a, b, q, r, n, m, rfl, _⟩ := h
    rfl
  · obtain ⟨a, b, q, r, n, m, rfl, ⟨dx, ha⟩, ⟨dy, hb⟩, zq, zr, n0, m0, nm, k⟩ := h
    refine ⟨_, PSs.nox (pss_one (ps_ret (pe_cmpR op_lt (pe_op op_mulW (pe_fld (pv 0) rfl) (pe_fld (pv 1) rfl)) (pe_op op_mulW (pe_fld (pv 1) rfl) (pe_fld (pv 0) rfl)) (nomark _)))), ?_⟩
    refine ⟨_, rfl, a, _, dx, _, _, rfl, ha, Z.cl_Weight, Z.n_Weight_top, rfl, _, rfl, b, _, dy, _, _, rfl, hb, Z.cl_Weight, Z.n_Weight_bottom, rfl, _, _, rfl, rfl, wide_mul zq.1 (show (r.den : Int).natAbs < 2 ^ m from zr.2) n0 m0 (by omega), ?_⟩
    refine ⟨_, rfl, b, _, dy, _, _, rfl, hb, Z.cl_Weight, Z.n_Weight_top, rfl, _, rfl, a, _, dx, _, _, rfl, ha, Z.cl_Weight, Z.n_Weight_bottom, rfl, _, _, rfl, rfl, wide_mul zr.1 (show (q.den : Int).natAbs < 2 ^ n from zq.2) m0 n0 (by omega), ?_⟩
    refine ⟨_, _, rfl, rfl, ?_⟩
    rw [← lt_num] at k
    exact k
theorem met_nought (Z : Wd K mg) : C8.Met P w K mg base 1 (CW K) "is_nought" (spNought K) [] := by
  refine met (C := "Weight") (st := inClass (top 25) 8) Z.d_Weight_is_nought Z.cl_Weight Z.m_Weight_is_nought scNought (fun vs H Q E h => ?_) (fun _ _ _ _ _ _ us hl => match us, hl with | [_], _ => rfl) fun cdv A outer s H vs Q E hr h => ?_
  · obtain ⟨a, q, rfl, _⟩ := h
    rfl
  · obtain ⟨a, q, rfl, ⟨dx, ha⟩, k⟩ := h
    refine ⟨_, PSs.nox (pss_one (ps_ret (pe_cmpR op_eq (pe_fld (pv 0) rfl) pe_int (nomark _)))), ?_⟩
    refine ⟨_, rfl, a, _, dx, _, _, rfl, ha, Z.cl_Weight, Z.n_Weight_top, rfl, rfl, ?_⟩
    have e : decide (V.int q.num = V.int 0) = decide (q = 0) := by
      rw [← zero_num, decide_eq_decide]
      exact ⟨fun z => by injection z, fun z => by rw [z]⟩
    rw [e]
    exact k
theorem met_up (Z : Wd K mg) : C8.Met P w K mg base 1 (CW K) "whole_up" (spUp K) [] := by
  refine met (C := "Weight") (st := inClass (top 25) 9) Z.d_Weight_whole_up Z.cl_Weight Z.m_Weight_whole_up scUp (fun vs H Q E h => ?_) (fun _ _ _ _ _ _ us hl => match us, hl with | [_], _ => rfl) fun cdv A outer s H vs Q E hr h => ?_
  · obtain ⟨a, q, n, rfl, _⟩ := h
    rfl
  · obtain ⟨a, q, n, rfl, ⟨dx, ha⟩, hq, zq, n0, nm, k⟩ := h
    refine ⟨_, PSs.nox (pss_one (ps_ret (pe_op op_fdivW (pe_op op_sub (pe_op op_add (pe_fld (pv 0) rfl) (pe_fld (pv 0) rfl)) pe_int) (pe_fld (pv 0) rfl)))), ?_⟩
    have p1 := q.den_pos
    have p2 := num_nn hq
    refine ⟨_, rfl, a, _, dx, _, _, rfl, ha, Z.cl_Weight, Z.n_Weight_top, rfl, _, rfl, a, _, dx, _, _, rfl, ha, Z.cl_Weight, Z.n_Weight_bottom, rfl, _, _, rfl, rfl, _, _, rfl, rfl, ?_⟩
    refine ⟨_, rfl, a, _, dx, _, _, rfl, ha, Z.cl_Weight, Z.n_Weight_bottom, rfl, _, _, rfl, rfl, wide_div (by omega) (show (q.den : Int).natAbs < 2 ^ n from zq.2) n0 (by omega), k _ (Int.ediv_nonneg (by omega) (by omega))⟩
/-! ### total -/
/-- Weights of these values at these places -/
def WsAt (K : PySem.W.Frag) (H : Hp) (ps : List Addr) (qs : List Rat) : Prop := Paired (fun p q => WAt K H p q) ps qs
theorem WsAt.ext {H H' : Hp} (e : Ext H H') : ∀ {ps : List Addr} {qs : List Rat}, WsAt K H ps qs → WsAt K H' ps qs
  | _, _, .nil => .nil
  | _, _, .cons h t => .cons (h.ext e) (WsAt.ext e t)
theorem WsAt.get {H : Hp} : ∀ {ps : List Addr} {qs : List Rat} {i : Nat} {p : Addr}, WsAt K H ps qs → ps[i]? = some p → ∃ q, qs[i]? = some q ∧ WAt K H p q
  | _, _, 0, _, .cons h _, e => ⟨_, rfl, by cases e; exact h⟩
  | _, _, i + 1, _, .cons _ t, e => WsAt.get (i := i) t e
theorem WsAt.len {H : Hp} {ps : List Addr} {qs : List Rat} (h : WsAt K H ps qs) : ps.length = qs.length := Paired.length h
/-- a list or a tuple of Weights; each of so many bits -/
def spTotal (K : PySem.W.Frag) : Sp := fun vs H Q _ => ∃ (a : Addr) (ps : List Addr) (qs : List Rat) (n : Nat), vs = [.ref a] ∧ (SqL K H a (ps.map V.ref) ∨ SqT K H a (ps.map V.ref)) ∧ WsAt K H ps qs ∧ (∀ q ∈ qs, 0 ≤ q ∧ Sz n q) ∧ 0 < n ∧ (qs.length + 1) * (n + 1) ≤ 7000 ∧
  ∀ p H', Ext H H' → H p = none → WAt K H' p qs.sum → Q (.ref p) H'
theorem scTotal : FnScope ["weights", "found", "one"] ["weights"] (defScope (top 26)) := ⟨rfl, rfl, rfl, by decide +kernel, rfl, by decide +kernel, by decide +kernel⟩
def PvTotal (K : PySem.W.Frag) (H0 : Hp) (a : Addr) (qs : List Rat) (i : Nat) (σ : L2.St) (H : Hp) : Prop := ∃ (f : Addr) (o : Option V), σ = [some (.ref a), some (.ref f), o] ∧ Ext H0 H ∧ H0 f = none ∧ WAt K H f (qs.take i).sum
theorem fresh_of {H H' : Hp} {p : Addr} (e : Ext H H') (h : H' p = none) : H p = none := by
  cases z : H p with
  | none => rfl
  | some o =>
    rw [e _ _ z] at h
    cases h
theorem total_turn {H0 : Hp} {ps : List Addr} {qs : List Rat} {n i : Nat} {H : Hp} {p : Addr} (hp : ps[i]? = some p) (ws : WsAt K H0 ps qs) (hq : ∀ q ∈ qs, 0 ≤ q ∧ Sz n q) (n0 : 0 < n) (hz : (qs.length + 1) * (n + 1) ≤ 7000)
    (e : Ext H0 H) : ∃ q m, WAt K H p q ∧ 0 ≤ (qs.take i).sum ∧ 0 ≤ q ∧ Sz m (qs.take i).sum ∧ Sz n q ∧ 0 < m ∧ m + n ≤ 8000 ∧ (qs.take (i + 1)).sum = (qs.take i).sum + q := by
  obtain ⟨q, eq, wq⟩ := (ws.ext e).get hp
  obtain ⟨q0, qz⟩ := hq q (List.mem_of_getElem? eq)
  have hi : i < qs.length := (List.getElem?_eq_some_iff.mp eq).1
  have z := sum_sz n0 (l := qs.take i) (take_sub fun q hq' => (hq q hq').2)
  have zl : (qs.take i).length * (n + 1) ≤ qs.length * (n + 1) := Nat.mul_le_mul_right _ (by rw [List.length_take]; omega)
  rw [Nat.add_mul] at hz
  exact ⟨q, _, wq, sum_nn (take_sub fun q hq' => (hq q hq').1), q0, z, qz, by omega, by omega, sum_take_succ eq⟩
theorem ok_total (Z : Wd K mg) : C8.Cal P w K mg base 5 "total" (spTotal K) [] := by
  refine cal (st := top 26) Z.d_total Z.g_total scTotal (fun vs H Q E h => ?_) (fun _ _ _ _ _ _ us hl => match us, hl with | [_], _ => rfl) fun cdv A outer s H vs Q E hr h => ?_
  · obtain ⟨a, ps, qs, n, rfl, _⟩ := h
    rfl
  · obtain ⟨a, ps, qs, n, rfl, hs, ws, hq, n0, hz, k⟩ := h
    have mP := met_plus (P := P) (w := w) (base := base) Z
    have z0 : ((0 : Int) : Rat) = ([] : List Rat).sum := rfl
    have lq := ws.len
    rcases hs with hs | hs
    · refine ⟨_, PSs.nox (pss_cons (ps_set (i := 1) scTotal.nd rfl (.inl rfl) (pe_mkI (mak_w1 (P := P) (w := w) (base := base) Z) hr (by decide) (by rfl) rW1_imp (pa_cons pe_int pa_nil)))
        (pss_cons (ps_for PassesOwn.never rfl (pi_list (pv 0)) (pg_name (i := 2) scTotal.nd rfl (.inl rfl)) (pss_one (ps_set (i := 1) scTotal.nd rfl (.inl rfl) (C8.pe_mt mP hr (by decide) (pv 1) (pa_cons (pv 2) pa_nil)))))
        (pss_one (ps_ret (pv 1))))), ?_⟩
      refine ⟨0, rfl, by decide, Nat.pow_pos (by decide), fun f H1 e nf wf => ?_⟩
      refine ⟨_, rfl, a, rfl, ⟨_, hs.ext e⟩, for_list (xs := ps.map V.ref) (PvTotal K H a qs) ⟨f, none, rfl, e, nf, z0 ▸ wf⟩ (fun i σ H2 _ ⟨f, o, _, e, _⟩ => hs.ext e) (fun i x σ H2 hx ⟨f, o, es, e, nf, wf⟩ => ?_) fun σ H2 ⟨f, o, es, e, nf, wf⟩ => ?_⟩
      · rw [List.getElem?_map] at hx
        obtain ⟨p, hp, rfl⟩ := Option.map_eq_some_iff.mp hx
        subst es
        obtain ⟨q, m, wq, s0, q0, sz, qz, m0, mn, es⟩ := total_turn hp ws hq n0 hz e
        obtain ⟨dy, wf'⟩ := id wf
        exact ⟨_, rfl, f, dy, _, rfl, wf', rfl, _, rfl, f, p, _, q, m, n, rfl, wf, wq, s0, q0, sz, qz, m0, n0, mn, fun p' H' e' np wp => ⟨p', _, rfl, e.trans e', fresh_of e np, es ▸ wp⟩⟩
      · subst es
        refine ⟨_, rfl, k f H2 e nf ?_⟩
        rw [List.length_map, lq, List.take_length] at wf
        exact wf
    · refine ⟨_, PSs.nox (pss_cons (ps_set (i := 1) scTotal.nd rfl (.inl rfl) (pe_mkI (mak_w1 (P := P) (w := w) (base := base) Z) hr (by decide) (by rfl) rW1_imp (pa_cons pe_int pa_nil)))
        (pss_cons (ps_for PassesOwn.never rfl (pi_tup (pv 0)) (pg_name (i := 2) scTotal.nd rfl (.inl rfl)) (pss_one (ps_set (i := 1) scTotal.nd rfl (.inl rfl) (C8.pe_mt mP hr (by decide) (pv 1) (pa_cons (pv 2) pa_nil)))))
        (pss_one (ps_ret (pv 1))))), ?_⟩
      refine ⟨0, rfl, by decide, Nat.pow_pos (by decide), fun f H1 e nf wf => ?_⟩
      refine ⟨_, rfl, a, rfl, ⟨_, hs.ext e⟩, for_tup (xs := ps.map V.ref) (PvTotal K H a qs) ⟨f, none, rfl, e, nf, z0 ▸ wf⟩ (fun i σ H2 _ ⟨f, o, _, e, _⟩ => hs.ext e) (fun i x σ H2 hx ⟨f, o, es, e, nf, wf⟩ => ?_) fun σ H2 ⟨f, o, es, e, nf, wf⟩ => ?_⟩
      · rw [List.getElem?_map] at hx
        obtain ⟨p, hp, rfl⟩ := Option.map_eq_some_iff.mp hx
        subst es
        obtain ⟨q, m, wq, s0, q0, sz, qz, m0, mn, es⟩ := total_turn hp ws hq n0 hz e
        obtain ⟨dy, wf'⟩ := id wf
        exact ⟨_, rfl, f, dy, _, rfl, wf', rfl, _, rfl, f, p, _, q, m, n, rfl, wf, wq, s0, q0, sz, qz, m0, n0, mn, fun p' H' e' np wp => ⟨p', _, rfl, e.trans e', fresh_of e np, es ▸ wp⟩⟩
      · subst es
        refine ⟨_, rfl, k f H2 e nf ?_⟩
        rw [List.length_map, lq, List.take_length] at wf
        exact wf
end
end K34
set_option Elab.async false
set_option linter.all false
set_option maxRecDepth 100000
set_option maxHeartbeats 2000000
/-! K34N: names, marks, grains, days. -/
namespace K34
open PySem PySem.Spec PyProof.Rows L2
section
variable {P : Program} {w : World} {K : PySem.W.Frag} {mg : Str → Option Value} {base : Heap}
/-! ### data stays: all but lists and tables -/
def Kp (H H' : Hp) : Prop := ∀ b o, H b = some o → (∀ xs, o ≠ .lst xs) → (∀ ps, o ≠ .tbl ps) → H' b = some o
theorem Kp.rfl' {H : Hp} : Kp H H := fun _ _ h _ _ => h
theorem Kp.trans {H H1 H2 : Hp} (a : Kp H H1) (b : Kp H1 H2) : Kp H H2 := fun c o h n m => b c o (a c o h n m) n m
theorem Kp.of {H H' : Hp} (e : Ext H H') : Kp H H' := fun b o h _ _ => e b o h
theorem Kp.ofN {H H' : Hp} (e : LamX.ExtN H H') : Kp H H' := fun b o h _ n => e b o h n
theorem Kp.put {H : Hp} {D : Addr} {xs ys : List V} (h : H D = some (.lst xs)) : Kp H (upd H D (.lst ys)) := fun b o e n _ => by
  rw [upd_ne (fun z => n xs (by rw [z, h] at e; exact (Option.some.inj e).symm))]
  exact e
theorem Kp.new {H : Hp} {D : Addr} {o : HO} (h : H D = none) : Kp H (upd H D o) := Kp.of (Ext.upd h)
theorem WAt.kp {H H' : Hp} {p : Addr} {q : Rat} (a : WAt K H p q) (e : Kp H H') : WAt K H' p q := let ⟨dx, h⟩ := a; ⟨dx, e _ _ h (fun _ z => by cases z) fun _ z => by cases z⟩
theorem WsAt.kp {H H' : Hp} (e : Kp H H') : ∀ {ps : List Addr} {qs : List Rat}, WsAt K H ps qs → WsAt K H' ps qs
  | _, _, .nil => .nil
  | _, _, .cons h t => .cons (h.kp e) (WsAt.kp e t)
/-- from the entry: all that was there stands, D is new -/
theorem Ext.put {H H1 : Hp} {D : Addr} {o : HO} (e : Ext H H1) (h : H D = none) : Ext H (upd H1 D o) := fun b u z => by
  rw [upd_ne (ne_of_none z h)]
  exact e b u z
/-! ### is_name -/
def letC : List Nat := [97, 98, 99, 100, 101, 102, 103, 104, 105, 106, 107, 108, 109, 110, 111, 112, 113, 114, 115, 116, 117, 118, 119, 120, 121, 122]
def hexC : List Nat := [48, 49, 50, 51, 52, 53, 54, 55, 56, 57, 97, 98, 99, 100, 101, 102]
theorem letC_eq : ("abcdefghijklmnopqrstuvwxyz" : Str).cps.toList = letC := by decide +kernel
theorem hexC_eq : ("0123456789abcdef" : Str).cps.toList = hexC := by decide +kernel
structure NameOk (z : Str) : Prop where
  lo : 1 ≤ z.length
  hi : z.length ≤ 8
  all : ∀ c ∈ z.cps.toList, c ∈ letC
def spName : Sp := fun vs H Q _ => ∃ z, vs = [.str z] ∧ NameOk z ∧ ∀ H', Ext H H' → Q (.bl true) H'
theorem scName : FnScope ["thing", "sign"] ["thing"] (defScope (top 18)) := ⟨rfl, rfl, rfl, by decide +kernel, rfl, by decide +kernel, by decide +kernel⟩
theorem all_true (n : Nat) : (List.replicate n true).all id = true := by
  rw [List.all_eq_true]
  intro x hx
  rw [(List.mem_replicate.mp hx).2]
  rfl
/-- a list of n Trues at D, behind i turns -/
def PvAll (H0 : Hp) (D : Addr) (i : Nat) (H : Hp) : Prop := Ext H0 H ∧ H D = some (.lst ((List.replicate i true).map V.bl))
theorem PvAll.turn {H0 H H' : Hp} {D : Addr} {i : Nat} (p : PvAll H0 D i H) (h0 : H0 D = none) (e : Ext H H') : PvAll H0 D (i + 1) (upd H' D (.lst ((List.replicate i true).map V.bl ++ [.bl true]))) :=
  ⟨Ext.put (p.1.trans e) h0, by
    rw [upd_same, List.replicate_succ', List.map_append]
    rfl⟩
theorem PvAll.start {H0 : Hp} {D : Addr} (h0 : H0 D = none) : PvAll H0 D 0 (upd H0 D (.lst [])) := ⟨Ext.upd h0, upd_same⟩
theorem ok_name (Z : Wd K mg) : C8.Cal P w K mg base 1 "is_name" spName [] := by
  refine cal (st := top 18) Z.d_is_name Z.g_is_name scName (fun vs H Q E h => ?_) (fun _ _ _ _ _ _ us hl => match us, hl with | [_], _ => rfl) fun cdv A outer s H vs Q E hr h => ?_
  · obtain ⟨n, rfl, _⟩ := h
    rfl
  · obtain ⟨z, rfl, hz, q⟩ := h
    obtain ⟨t8, g8⟩ := Z.i_LONGEST_NAME
    obtain ⟨tl, gl⟩ := Z.s_LETTERS
    have z8 := hz.hi
    have z1 := hz.lo
    have zl : z.length ≤ sizeLine := by rw [sizeLine_eq]; omega
    refine ⟨_, PSs.nox (pss_cons (ps_if (PW.pt (pw_or (pt_not (pt_val (pe_callB call_isi (by rfl) Z.f_isinstance (by decide +kernel) (pa_cons (pv 0) (pa_cons (pe_bltn (by rfl) Z.f_str (by decide +kernel) (v := .ty "str") rfl) pa_nil)))))
        (pw_or1 (pt_not (pt_chain op_le op_le pe_int (pe_callB call_len_str (by rfl) Z.f_len PySem.boot_len (pa_cons (pv 0) pa_nil)) (C8.pe_gc (v := .int 8) (by rfl) ⟨_, g8, t8, rfl⟩)))))) (pss_one (ps_ret pe_bl)) pss_nil)
      (pss_one (ps_ret (pe_callB (cr_all rfl) (by rfl) Z.f_all (by decide +kernel) (pa_cons (pe_lc (own := [("sign", 1)]) (g := gName 1) (tt := tYes) rfl scName.nd (pi_str (pv 0)) (blkOk_by (own := [("sign", 1)]) (N := ["thing", "sign"]) (sc := defScope (top 18)) (by decide +kernel))
        (fun _ _ _ _ _ => pg_name (i := 1) scName.nd rfl (Or.inl rfl)) (fun _ _ _ _ _ => pts_nil) (fun _ _ _ _ _ => pe_cmpR op_in_sign (pv 1) (C8.pe_gc (v := .str "abcdefghijklmnopqrstuvwxyz") (by rfl) ⟨_, gl, tl, rfl⟩) (by rfl))) pa_nil))))), ?_⟩
    refine ⟨_, rfl, _, _, _, _, true, rfl, .ty _, .base (.str z), kit_ty (by decide +kernel), true, rfl, iteF ?_⟩
    refine ⟨_, rfl, z, rfl, zl, _, _, rfl, rfl, _, rfl, ?_⟩
    rw [decide_eq_true (show (1 : Int) ≤ (z.length : Int) by omega)]
    refine iteT ⟨_, _, rfl, rfl, _, rfl, ?_⟩
    rw [decide_eq_true (show (z.length : Int) ≤ 8 by omega)]
    refine iteF (nxt ?_)
    refine ⟨_, rfl, z, rfl, fun D nD => lc_it walk_str (PvAll H D) (PvAll.start nD) (fun _ _ _ _ => trivial) (fun i x H1 H2 hi p y => ?_) fun H1 p => ?_⟩
    · obtain ⟨rfl, c, hc, rfl⟩ := y
      refine ⟨rfl, _, rfl, c, _, rfl, rfl, ?_⟩
      rw [decide_eq_true (show c ∈ ("abcdefghijklmnopqrstuvwxyz" : Str).cps.toList by rw [letC_eq]; exact hz.all c (by rw [Array.mem_toList_iff]; exact Array.mem_of_getElem? hc))]
      exact ⟨_, p.2, by rw [List.length_map, List.length_replicate]; have : i < z.length := hi; omega, p.turn nD fun _ _ z => z⟩
    · refine ⟨D, _, rfl, SqL.of p.2, ?_⟩
      rw [all_true]
      exact q H1 p.1
/-! ### is_mark, mark_number -/
/-- the figures of a mark -/
structure FigOk (f : List Nat) : Prop where
  ne : f ≠ []
  hi : f.length ≤ 6
  all : ∀ c ∈ f, c ∈ hexC
  lead : f = [48] ∨ ∃ c r, f = c :: r ∧ c ≠ 48
/-- the mark of these figures -/
def mk (f : List Nat) : Str := SX.S (99 :: f)
theorem mk_inj {f g : List Nat} (h : mk f = mk g) : f = g := by
  have := SX.S_inj h
  injection this
theorem cut_head (f : List Nat) : cutS (mk f) none (some 1) = "c" := by
  have e : HT.sIx (mk f).length (mk f).length (some 1) = 1 := by
    rw [show (some (1 : Int)) = some ((1 : Nat) : Int) from rfl, HT.sIx_nat, show (mk f).length = (99 :: f).length from SX.S_len _, List.length_cons]
    omega
  unfold cutS
  rw [HT.sIx_none, e]
  rfl
theorem cut_tail (f : List Nat) : cutS (mk f) (some 1) none = SX.S f := by
  have e : HT.sIx (mk f).length 0 (some 1) = 1 := by
    rw [show (some (1 : Int)) = some ((1 : Nat) : Int) from rfl, HT.sIx_nat, show (mk f).length = (99 :: f).length from SX.S_len _, List.length_cons]
    omega
  unfold cutS
  rw [HT.sIx_none, e, show (mk f).length = (99 :: f).length from SX.S_len _, List.length_cons]
  show (⟨((99 :: f).drop 1 |>.take (f.length + 1 - 1)).toArray⟩ : Str) = _
  rw [List.drop_one, List.tail_cons, Nat.add_sub_cancel, List.take_length]
def spMark : Sp := fun vs H Q _ => ∃ f, vs = [.str (mk f)] ∧ FigOk f ∧ ∀ H', Ext H H' → Q (.bl true) H'
def spNum : Sp := fun vs H Q _ => ∃ f, vs = [.str (mk f)] ∧ FigOk f ∧ Q (.int ((Hx.hexNum f : Nat) : Int)) H
theorem scMark : FnScope ["thing", "figures", "sign"] ["thing"] (defScope (top 19)) := ⟨rfl, rfl, rfl, by decide +kernel, rfl, by decide +kernel, by decide +kernel⟩
theorem scNum : FnScope ["mark"] ["mark"] (defScope (top 20)) := ⟨rfl, rfl, rfl, by decide +kernel, rfl, by decide +kernel, by decide +kernel⟩
theorem hex_is {c : Nat} (h : c ∈ hexC) : Hx.IsHex c := by
  unfold hexC at h
  unfold Hx.IsHex
  simp only [List.mem_cons, List.not_mem_nil, or_false] at h
  omega
theorem ok_num (Z : Wd K mg) : C8.Cal P w K mg base 1 "mark_number" spNum [] := by
  refine cal (st := top 20) Z.d_mark_number Z.g_mark_number scNum (fun vs H Q E h => ?_) (fun _ _ _ _ _ _ us hl => match us, hl with | [_], _ => rfl) fun cdv A outer s H vs Q E hr h => ?_
  · obtain ⟨n, rfl, _⟩ := h
    rfl
  · obtain ⟨f, rfl, hf, q⟩ := h
    refine ⟨_, PSs.nox (pss_one (ps_ret (pe_callTy call_int_hex (by rfl) Z.f_int (by decide +kernel) (pa_cons (pe_slice sl_str (pv 0) (po_some pe_int) po_none) (pa_cons pe_int pa_nil))))), ?_⟩
    have zl : (mk f).length ≤ sizeLine := by
      have := hf.hi
      rw [sizeLine_eq, show (mk f).length = (99 :: f).length from SX.S_len _, List.length_cons]
      omega
    refine ⟨_, rfl, 1, rfl, mk f, rfl, zl, f, ?_, hf.ne, by have := hf.hi; omega, fun c hc => hex_is (hf.all c hc), q⟩
    rw [cut_tail]
theorem ok_mark (Z : Wd K mg) : C8.Cal P w K mg base 1 "is_mark" spMark [] := by
  refine cal (st := top 19) Z.d_is_mark Z.g_is_mark scMark (fun vs H Q E h => ?_) (fun _ _ _ _ _ _ us hl => match us, hl with | [_], _ => rfl) fun cdv A outer s H vs Q E hr h => ?_
  · obtain ⟨n, rfl, _⟩ := h
    rfl
  · obtain ⟨f, rfl, hf, q⟩ := h
    obtain ⟨t8, g8⟩ := Z.i_LONGEST_NUMBER
    obtain ⟨tl, gl⟩ := Z.s_SIXTEENS
    have z8 := hf.hi
    have z1 : 0 < f.length := List.length_pos_iff.mpr hf.ne
    have zl : (mk f).length ≤ sizeLine := by
      rw [sizeLine_eq, show (mk f).length = (99 :: f).length from SX.S_len _, List.length_cons]
      omega
    have fl : (SX.S f).length = f.length := SX.S_len f
    refine ⟨_, PSs.nox (pss_cons (ps_if (PW.pt (pw_or (pt_not (pt_val (pe_callB call_isi (by rfl) Z.f_isinstance (by decide +kernel) (pa_cons (pv 0) (pa_cons (pe_bltn (by rfl) Z.f_str (by decide +kernel) (v := .ty "str") rfl) pa_nil)))))
        (pw_or1 (pt_cmpR op_ne (pe_slice sl_str (pv 0) po_none (po_some pe_int)) pe_str (nomark _))))) (pss_one (ps_ret pe_bl)) pss_nil)
      (pss_cons (ps_set (i := 1) scMark.nd rfl (.inl rfl) (pe_slice sl_str (pv 0) (po_some pe_int) po_none))
      (pss_cons (ps_if (PW.pt (pw_or (pt_not (pt_chain op_le op_le pe_int (pe_callB call_len_str (by rfl) Z.f_len PySem.boot_len (pa_cons (pv 1) pa_nil)) (C8.pe_gc (v := .int 6) (by rfl) ⟨_, g8, t8, rfl⟩)))
        (pw_or1 (pt_not (pt_val (pe_callB (cr_all rfl) (by rfl) Z.f_all (by decide +kernel) (pa_cons (pe_lc (own := [("sign", 2)]) (g := gName 2) (tt := tYes) rfl scMark.nd (pi_str (pv 1)) (blkOk_by (own := [("sign", 2)]) (N := ["thing", "figures", "sign"]) (sc := defScope (top 19)) (by decide +kernel))
        (fun _ _ _ _ _ => pg_name (i := 2) scMark.nd rfl (Or.inl rfl)) (fun _ _ _ _ _ => pts_nil) (fun _ _ _ _ _ => pe_cmpR op_in_sign (pv 2) (C8.pe_gc (v := .str "0123456789abcdef") (by rfl) ⟨_, gl, tl, rfl⟩) (by rfl))) pa_nil))))))) (pss_one (ps_ret pe_bl)) pss_nil)
      (pss_one (ps_ret (pe_or (pe_cmpR op_eq (pv 1) pe_str (nomark _)) (pe_one (pe_cmpR op_ne (pe_item_str (pv 1) pe_int (fun _ _ => rfl)) pe_str (nomark _))))))))), ?_⟩
    refine ⟨_, rfl, _, _, _, _, true, rfl, .ty _, .base (.str _), kit_ty (by decide +kernel), true, rfl, iteF ?_⟩
    refine ⟨_, rfl, 1, rfl, mk f, rfl, zl, rfl, _, rfl, ?_⟩
    rw [cut_head, decide_eq_true (show V.str "c" = V.str "c" from rfl)]
    refine iteF (nxt ?_)
    refine ⟨_, rfl, 1, rfl, mk f, rfl, zl, ?_⟩
    rw [cut_tail]
    refine ⟨_, rfl, SX.S f, rfl, by rw [fl, sizeLine_eq]; omega, _, _, rfl, rfl, _, rfl, ?_⟩
    rw [decide_eq_true (show (1 : Int) ≤ ((SX.S f).length : Int) by rw [fl]; omega)]
    refine iteT ⟨_, _, rfl, rfl, _, rfl, ?_⟩
    rw [decide_eq_true (show ((SX.S f).length : Int) ≤ 6 by rw [fl]; omega)]
    refine iteF ?_
    refine ⟨_, rfl, SX.S f, rfl, fun D nD => lc_it walk_str (PvAll H D) (PvAll.start nD) (fun _ _ _ _ => trivial) (fun i x H1 H2 hi p y => ?_) fun H1 p => ?_⟩
    · obtain ⟨rfl, c, hc, rfl⟩ := y
      refine ⟨rfl, _, rfl, c, _, rfl, rfl, ?_⟩
      have hm : c ∈ f := by
        have := Array.mem_of_getElem? hc
        simpa [SX.S] using this
      rw [decide_eq_true (show c ∈ ("0123456789abcdef" : Str).cps.toList by rw [hexC_eq]; exact hf.all c hm)]
      exact ⟨_, p.2, by rw [List.length_map, List.length_replicate, sizeLine_eq]; have : i < f.length := by simpa [SX.S] using hi
                        omega, p.turn nD fun _ _ z => z⟩
    · refine ⟨D, _, rfl, SqL.of p.2, true, ?_, iteF (nxt ?_)⟩
      · rw [all_true]
      · rcases hf.lead with e | ⟨c, r, e, hc⟩
        · subst e
          exact ⟨_, rfl, rfl, true, rfl, iteT (q H1 p.1)⟩
        · subst e
          refine ⟨_, rfl, rfl, false, ?_, iteF ?_⟩
          · rw [decide_eq_false]
            intro z
            injection z with z
            have z2 : (c :: r) = [48] := SX.S_inj z
            injection z2 with z3 _
            exact hc z3
          · refine ⟨_, rfl, SX.S (c :: r), 0, c, rfl, rfl, by decide, by decide, by rw [fl, List.length_cons]; omega, rfl, rfl, ?_⟩
            rw [decide_eq_false]
            · exact q H1 p.1
            · intro z
              injection z with z
              have z2 : [c] = [48] := SX.S_inj z
              injection z2 with z3 _
              exact hc z3
/-! ### is_grains, is_day -/
def spGrains : Sp := fun vs H Q _ => ∃ n : Int, vs = [.int n] ∧ 1 ≤ n ∧ Q (.bl true) H
def spDay : Sp := fun vs H Q _ => ∃ n : Int, vs = [.int n] ∧ 0 ≤ n ∧ n ≤ 1200 ∧ Q (.bl true) H
theorem scGrains : FnScope ["thing"] ["thing"] (defScope (top 21)) := ⟨rfl, rfl, rfl, by decide +kernel, rfl, by decide +kernel, by decide +kernel⟩
theorem scDay : FnScope ["thing"] ["thing"] (defScope (top 22)) := ⟨rfl, rfl, rfl, by decide +kernel, rfl, by decide +kernel, by decide +kernel⟩
theorem ok_grains (Z : Wd K mg) : C8.Cal P w K mg base 2 "is_grains" spGrains [] := by
  refine cal (st := top 21) Z.d_is_grains Z.g_is_grains scGrains (fun vs H Q E h => ?_) (fun _ _ _ _ _ _ us hl => match us, hl with | [_], _ => rfl) fun cdv A outer s H vs Q E hr h => ?_
  · obtain ⟨n, rfl, _⟩ := h
    rfl
  · obtain ⟨n, rfl, h1, q⟩ := h
    refine ⟨_, PSs.nox (pss_one (ps_ret (pe_and (C8.pe_c (ok_whole (P := P) (w := w) (base := base) Z) hr (by decide) (by rfl) (pa_cons (pv 0) pa_nil)) (pe_one (pe_cmpR op_ge (pv 0) pe_int (nomark _)))))), ?_⟩
    refine ⟨_, rfl, n, rfl, true, rfl, iteT ⟨_, rfl, _, _, rfl, rfl, ?_⟩⟩
    rw [← decide_eq_true (show n ≥ 1 from h1)] at q
    exact q
theorem ok_day (Z : Wd K mg) : C8.Cal P w K mg base 2 "is_day" spDay [] := by
  refine cal (st := top 22) Z.d_is_day Z.g_is_day scDay (fun vs H Q E h => ?_) (fun _ _ _ _ _ _ us hl => match us, hl with | [_], _ => rfl) fun cdv A outer s H vs Q E hr h => ?_
  · obtain ⟨n, rfl, _⟩ := h
    rfl
  · obtain ⟨n, rfl, h1, h2, q⟩ := h
    obtain ⟨t8, g8⟩ := Z.i_LAST_DAY
    refine ⟨_, PSs.nox (pss_one (ps_ret (pe_and (C8.pe_c (ok_whole (P := P) (w := w) (base := base) Z) hr (by decide) (by rfl) (pa_cons (pv 0) pa_nil)) (pe_one (pe_chain op_le op_le pe_int (pv 0) (C8.pe_gc (v := .int 1200) (by rfl) ⟨_, g8, t8, rfl⟩)))))), ?_⟩
    refine ⟨_, rfl, n, rfl, true, rfl, iteT ⟨_, rfl, _, _, rfl, rfl, _, rfl, ?_⟩⟩
    rw [decide_eq_true h1]
    refine iteT ⟨_, _, rfl, rfl, ?_⟩
    rw [← decide_eq_true h2] at q
    exact q
end
end K34
set_option Elab.async false
set_option linter.all false
set_option maxRecDepth 100000
set_option maxHeartbeats 2000000
/-! K34C: parts. -/
namespace K34
open PySem PySem.Spec PyProof.Rows L2
theorem walk_zipT {K : PySem.W.Frag} {a b : Addr} {xs ys : List V} {n : Nat} (hn : n = min xs.length ys.length) : Walk (RZ.ItzT K a b) n (fun H => SqT K H a xs ∧ SqT K H b ys) (YPair (fun i => xs[i]?) (fun i => ys[i]?)) := by
  subst hn
  refine ⟨fun i _ hi q => ?_, fun _ q => ⟨xs, ys, q.1, q.2, by omega⟩, fun i H v H' _ q y => ?_⟩
  · have g1 : i < xs.length := by omega
    have g2 : i < ys.length := by omega
    exact ⟨xs, ys, xs[i], ys[i], q.1, q.2, List.getElem?_eq_getElem g1, List.getElem?_eq_getElem g2⟩
  · obtain ⟨T, x, z, g1, g2, g3, g4, g5⟩ := y
    exact ⟨T, x, z, g1, g2, g3, g4 xs q.1, g5 ys q.2⟩
section
variable {P : Program} {w : World} {K : PySem.W.Frag} {mg : Str → Option Value} {base : Heap}
/-- a part at u: a tuple of a name and a Weight -/
def PartAt (K : PySem.W.Frag) (H : Hp) (u : Addr) (p : Str × Rat) : Prop := ∃ w, H u = some (.tup [.str p.1, .ref w]) ∧ WAt K H w p.2
/-- parts at t -/
def PartsAt (K : PySem.W.Frag) (H : Hp) (t : Addr) (ps : List (Str × Rat)) : Prop := ∃ ts : List Addr, H t = some (.tup (ts.map V.ref)) ∧ Paired (PartAt K H) ts ps
theorem PartAt.kp {H H' : Hp} {u : Addr} {p : Str × Rat} (h : PartAt K H u p) (e : Kp H H') : PartAt K H' u p := let ⟨w, a, b⟩ := h; ⟨w, e _ _ a (fun _ z => by cases z) (fun _ z => by cases z), b.kp e⟩
theorem paired_mono {α β : Type} {R S : α → β → Prop} (m : ∀ a b, R a b → S a b) : ∀ {as : List α} {bs : List β}, Paired R as bs → Paired S as bs
  | _, _, .nil => .nil
  | _, _, .cons h t => .cons (m _ _ h) (paired_mono m t)
theorem paired_get {α β : Type} {R : α → β → Prop} : ∀ {as : List α} {bs : List β} {i : Nat} {a : α}, Paired R as bs → as[i]? = some a → ∃ b, bs[i]? = some b ∧ R a b
  | _, _, 0, _, .cons h _, e => ⟨_, rfl, by cases e; exact h⟩
  | _, _, i + 1, _, .cons _ t, e => paired_get (i := i) t e
theorem paired_snoc {α β : Type} {R : α → β → Prop} {a : α} {b : β} (h : R a b) : ∀ {as : List α} {bs : List β}, Paired R as bs → Paired R (as ++ [a]) (bs ++ [b])
  | _, _, .nil => .cons h .nil
  | _, _, .cons g t => .cons g (paired_snoc h t)
theorem PartsAt.kp {H H' : Hp} {t : Addr} {ps : List (Str × Rat)} (h : PartsAt K H t ps) (e : Kp H H') : PartsAt K H' t ps := let ⟨ts, a, b⟩ := h; ⟨ts, e _ _ a (fun _ z => by cases z) (fun _ z => by cases z), paired_mono (fun _ _ z => z.kp e) b⟩
theorem take_snoc {α : Type} {l : List α} {i : Nat} {x : α} (h : l[i]? = some x) : l.take (i + 1) = l.take i ++ [x] := by
  rw [List.take_add_one, h]
  rfl
/-- names by their codes -/
def ltS (x y : Str) : Prop := x.cps.toList < y.cps.toList
structure PartsOk (ps : List (Str × Rat)) : Prop where
  few : ps.length ≤ 4
  name : ∀ p ∈ ps, NameOk p.1
  pos : ∀ p ∈ ps, 0 < p.2
  sz : ∀ p ∈ ps, Sz 300 p.2
  up : ps.Pairwise fun p q => ltS p.1 q.1
/-! ### is_part -/
def spPart (K : PySem.W.Frag) : Sp := fun vs H Q _ => ∃ u p, vs = [.ref u] ∧ PartAt K H u p ∧ NameOk p.1 ∧ 0 < p.2 ∧ ∀ H', Ext H H' → Q (.bl true) H'
theorem scPart : FnScope ["thing"] ["thing"] (defScope (top 29)) := ⟨rfl, rfl, rfl, by decide +kernel, rfl, by decide +kernel, by decide +kernel⟩
theorem ok_part (Z : Wd K mg) : C8.Cal P w K mg base 2 "is_part" (spPart K) [] := by
  refine cal (st := top 29) Z.d_is_part Z.g_is_part scPart (fun vs H Q E h => ?_) (fun _ _ _ _ _ _ us hl => match us, hl with | [_], _ => rfl) fun cdv A outer s H vs Q E hr h => ?_
  · obtain ⟨n, p, rfl, _⟩ := h
    rfl
  · obtain ⟨u, p, rfl, ⟨v, hu, ⟨dx, hv⟩⟩, hn, h0, q⟩ := h
    have cN := ok_name (P := P) (w := w) (base := base) Z
    have mN := met_nought (P := P) (w := w) (base := base) Z
    refine ⟨_, PSs.nox (pss_cons (ps_if (PW.pt (pw_or (pt_not (pt_val (pe_callB call_isi (by rfl) Z.f_isinstance (by decide +kernel) (pa_cons (pv 0) (pa_cons (pe_bltn (by rfl) Z.f_tuple (by decide +kernel) (v := .ty "tuple") rfl) pa_nil)))))
        (pw_or (pt_cmpR op_ne (pe_callB call_len_seq (by rfl) Z.f_len PySem.boot_len (pa_cons (pv 0) pa_nil)) pe_int (nomark _))
        (pw_or1 (pt_not (pt_val (C8.pe_c cN hr (by decide) (by rfl) (pa_cons (pe_ix ix_tup (pv 0) pe_int (fun _ _ => rfl)) pa_nil))))))))
        (pss_one (ps_ret pe_bl)) pss_nil)
      (pss_one (ps_ret (pe_and (pe_callB (C8.call_isC Z.we.i) (by rfl) Z.f_isinstance (by decide +kernel) (pa_cons (pe_ix ix_tup (pv 0) pe_int (fun _ _ => rfl)) (pa_cons (C8.pe_gc (by rfl) ⟨_, Z.g_Weight, rfl⟩ (v := .ref (CW K))) pa_nil)))
        (pe_one (pe_not (C8.pe_mt0 mN hr (by decide) (pe_ix ix_tup (pv 0) pe_int (fun _ _ => rfl))))))))), ?_⟩
    refine ⟨_, rfl, _, _, _, _, true, rfl, .ty _, .base (.tup hu), kit_ty (by decide +kernel), true, rfl, iteF ?_⟩
    refine ⟨_, rfl, u, _, rfl, .inr (SqT.of hu), rfl, _, rfl, iteF ?_⟩
    refine ⟨_, rfl, u, _, 0, .str p.1, rfl, rfl, SqT.of hu, rfl, p.1, rfl, hn, fun H1 e => ⟨true, rfl, iteF (nxt ?_)⟩⟩
    refine ⟨_, rfl, u, _, 1, .ref v, rfl, rfl, SqT.of (e _ _ hu), rfl, v, dx, _, rfl, e _ _ hv, _, rfl, iteT ?_⟩
    refine ⟨_, rfl, u, _, 1, .ref v, rfl, rfl, SqT.of (e _ _ hu), rfl, v, dx, _, rfl, e _ _ hv, rfl, v, p.2, rfl, ⟨dx, e _ _ hv⟩, _, rfl, ?_⟩
    have z : ¬ p.2 = 0 := fun z => by
      rw [z] at h0
      exact absurd h0 (by decide)
    rw [decide_eq_false z]
    exact q H1 e
/-! ### is_parts -/
/-- rules told with a K of one's own (in a comprehension's block) -/
theorem ix_tupK {X : Cx} {K : PySem.W.Frag} (h : X.K = K) : IxR X (rIxT K) := h ▸ ix_tup
theorem pe_fldK {X : Cx} {K : PySem.W.Frag} {e : Expr} {te : TE} {f : Str} {pos : Pos} (h : X.K = K) (he : PE X e te) (hb : attributeBase e f X.env (eval e X.env) = eval e X.env := by rfl) : PE X (.Attribute e f pos) (tFld K te f) := h ▸ pe_fld he hb
/-- t[lo:hi] of a tuple, the whole or a new one -/
def rSlX (K : PySem.W.Frag) : V → Option Int → Option Int → Hp → VK → Prop := fun x lo hi H Q => ∃ a xs, x = .ref a ∧ SqT K H a xs ∧ ∀ p H', Ext H H' → SqT K H' p (cutV xs lo hi) → Q (.ref p) H'
theorem cut_whole {xs : List V} {lo hi : Option Int} (h : HT.sIx xs.length 0 lo = 0 ∧ HT.sIx xs.length xs.length hi = xs.length) : cutV xs lo hi = xs := by
  unfold cutV
  rw [h.1, h.2, List.drop_zero, Nat.sub_zero, List.take_length]
theorem sl_tupX {X : Cx} : SlR X (rSlX X.K) := by
  intro pins s σ H x v vl vu lo hi sl Q I rx hs pl pu h
  obtain ⟨a, xs, e, hx, q⟩ := h
  exact sl_tupA pins s σ H x v vl vu lo hi sl Q I rx hs pl pu ⟨a, xs, e, hx, fun z => q a H (fun _ _ y => y) (by rw [cut_whole z]; exact hx), fun _ p hp => q p _ (Ext.upd hp) (SqT.of upd_same)⟩
theorem cut_init (xs : List V) : cutV xs none (some (-1)) = xs.take (xs.length - 1) := by
  unfold cutV
  rw [HT.sIx_none, List.drop_zero, Nat.sub_zero]
  have e : HT.sIx xs.length xs.length (some (-1)) = xs.length - 1 := by
    show (if (-1 : Int) < 0 then ((-1 : Int) + (xs.length : Int)).toNat else min (-1 : Int).toNat xs.length) = _
    rw [if_pos (by decide)]
    omega
  rw [e]
theorem cut_rest (xs : List V) : cutV xs (some 1) none = xs.drop 1 := by
  unfold cutV
  rw [HT.sIx_none]
  have e : HT.sIx xs.length 0 (some 1) = min 1 xs.length := by
    rw [show (some (1 : Int)) = some ((1 : Nat) : Int) from rfl, HT.sIx_nat]
  rw [e]
  by_cases h : xs = []
  · subst h
    rfl
  · have : 0 < xs.length := List.length_pos_iff.mpr h
    rw [show min 1 xs.length = 1 by omega]
    exact List.take_of_length_le (by simp)
def spParts (K : PySem.W.Frag) : Sp := fun vs H Q _ => ∃ t ps, vs = [.ref t] ∧ PartsAt K H t ps ∧ PartsOk ps ∧ ∀ H', Ext H H' → Q (.bl true) H'
theorem scParts : FnScope ["thing", "one", "other"] ["thing"] (defScope (top 30)) := ⟨rfl, rfl, rfl, by decide +kernel, rfl, by decide +kernel, by decide +kernel⟩
theorem ok_parts (Z : Wd K mg) : C8.Cal P w K mg base 3 "is_parts" (spParts K) [] := by
  refine cal (st := top 30) Z.d_is_parts Z.g_is_parts scParts (fun vs H Q E h => ?_) (fun _ _ _ _ _ _ us hl => match us, hl with | [_], _ => rfl) fun cdv A outer s H vs Q E hr h => ?_
  · obtain ⟨n, p, rfl, _⟩ := h
    rfl
  · obtain ⟨t, ps, rfl, ⟨ts, ht, hp⟩, ok, q⟩ := h
    obtain ⟨t4, g4⟩ := Z.i_MOST_PARTS
    have cP := ok_part (P := P) (w := w) (base := base) Z
    have lt : ts.length = ps.length := Paired.length hp
    have few := ok.few
    refine ⟨_, PSs.nox (pss_cons (ps_if (PW.pt (pw_or (pt_not (pt_val (pe_callB call_isi (by rfl) Z.f_isinstance (by decide +kernel) (pa_cons (pv 0) (pa_cons (pe_bltn (by rfl) Z.f_tuple (by decide +kernel) (v := .ty "tuple") rfl) pa_nil)))))
        (pw_or (pt_cmpR op_gt (pe_callB call_len_seq (by rfl) Z.f_len PySem.boot_len (pa_cons (pv 0) pa_nil)) (C8.pe_gc (v := .int 4) (by rfl) ⟨_, g4, t4, rfl⟩) (nomark _))
        (pw_or1 (pt_not (pt_val (pe_callB (cr_all rfl) (by rfl) Z.f_all (by decide +kernel) (pa_cons (pe_lc (own := [("one", 1)]) (g := gName 1) (tt := tYes) rfl scParts.nd (pi_tup (pv 0)) (blkOk_by (own := [("one", 1)]) (N := ["thing", "one", "other"]) (sc := defScope (top 30)) (by decide +kernel))
          (fun _ _ _ _ _ => pg_name (i := 1) scParts.nd rfl (Or.inl rfl)) (fun _ _ _ _ _ => pts_nil) (fun _ _ _ _ _ => C8.pe_c cP hr (by decide) (by rfl) (pa_cons (pv 1) pa_nil))) pa_nil)))))))) (pss_one (ps_ret pe_bl)) pss_nil)
      (pss_one (ps_ret (pe_callB (cr_all rfl) (by rfl) Z.f_all (by decide +kernel) (pa_cons (pe_lc (own := [("one", 1), ("other", 2)]) (g := gTup K 2 (gCons (gName 1) (gCons (gName 2) gNil))) (tt := tYes) rfl scParts.nd
        (RZ.pi_zipA (by rfl) Z.f_zip (pa_cons (pe_slice sl_tupX (pv 0) po_none (po_some (pe_un un_neg pe_int))) (pa_cons (pe_slice sl_tupX (pv 0) (po_some pe_int) po_none) pa_nil)))
        (blkOk_by (own := [("one", 1), ("other", 2)]) (N := ["thing", "one", "other"]) (sc := defScope (top 30)) (by decide +kernel))
        (fun _ _ _ _ _ => pg_tup rfl (pgs_cons (pg_name (i := 1) scParts.nd rfl (Or.inl rfl)) (pgs_cons (pg_name (i := 2) scParts.nd rfl (Or.inl rfl)) pgs_nil))) (fun _ _ _ _ _ => pts_nil)
        (fun _ _ _ _ _ => pe_cmpR op_lt_str (pe_ix (ix_tupK (K := K) rfl) (pv 1) pe_int (fun _ _ => rfl)) (pe_ix (ix_tupK (K := K) rfl) (pv 2) pe_int (fun _ _ => rfl)) (nomark _))) pa_nil))))), ?_⟩
    refine ⟨_, rfl, _, _, _, _, true, rfl, .ty _, .base (.tup ht), kit_ty (by decide +kernel), true, rfl, iteF ?_⟩
    refine ⟨_, rfl, t, _, rfl, .inr (SqT.of ht), _, _, rfl, rfl, _, rfl, ?_⟩
    rw [decide_eq_false (show ¬ (((ts.map V.ref).length : Nat) : Int) > 4 by rw [List.length_map]; omega)]
    refine iteF ?_
    refine ⟨_, rfl, t, rfl, ⟨_, SqT.of ht⟩, fun D nD => lc_it (walk_tup (xs := ts.map V.ref)) (PvAll H D) (PvAll.start nD) (fun i H1 _ p => SqT.of (p.1 _ _ ht)) (fun i x H1 H2 hi p y => ?_) fun H1 p => ?_⟩
    · obtain ⟨rfl, hx⟩ := y
      rw [List.getElem?_map] at hx
      obtain ⟨u, hu, rfl⟩ := Option.map_eq_some_iff.mp hx
      obtain ⟨pp, hpp, pa⟩ := paired_get hp hu
      have hm := List.mem_of_getElem? hpp
      refine ⟨rfl, _, rfl, u, pp, rfl, pa.kp (Kp.of p.1), ok.name _ hm, ok.pos _ hm, fun H3 e => ?_⟩
      exact ⟨_, e _ _ p.2, by rw [List.length_map, List.length_replicate, sizeLine_eq]; have : i < (ts.map V.ref).length := hi; rw [List.length_map] at this; omega, p.turn nD e⟩
    · refine ⟨D, _, rfl, SqL.of p.2, true, ?_, iteF (nxt ?_)⟩
      · rw [all_true]
      · have e1 := p.1
        refine ⟨_, rfl, 1, rfl, _, rfl, t, _, rfl, SqT.of (e1 _ _ ht), fun a2 H2 e2 s2 => ?_⟩
        refine ⟨_, rfl, 1, rfl, t, _, rfl, SqT.of (e2 _ _ (e1 _ _ ht)), fun a3 H3 e3 s3 => ?_⟩
        rw [show (-(1 : Int)) = -1 from rfl, cut_init] at s2
        rw [cut_rest] at s3
        have s2' := s2.ext e3
        refine ⟨a2, a3, _, _, rfl, .inr ⟨s2', s3, fun D2 nD2 => ?_⟩⟩
        have e13 : Ext H H3 := (e1.trans e2).trans e3
        refine lc_it (walk_zipT (n := ts.length - 1) (xs := (ts.map V.ref).take ((ts.map V.ref).length - 1)) (ys := (ts.map V.ref).drop 1) (by rw [List.length_take, List.length_drop, List.length_map]; omega)) (PvAll H3 D2) (PvAll.start nD2) (fun i H4 _ p4 => ⟨s2'.ext p4.1, s3.ext p4.1⟩) (fun i x H4 H5 hi p4 y => ?_) fun H4 p4 => ?_
        · obtain ⟨T, x1, y1, rfl, nT, rfl, hx, hy⟩ := y
          have hx' : (ts.map V.ref)[i]? = some x1 := by
            change ((ts.map V.ref).take ((ts.map V.ref).length - 1))[i]? = some x1 at hx
            rw [List.getElem?_take] at hx
            split at hx
            · exact hx
            · cases hx
          have hy' : (ts.map V.ref)[i + 1]? = some y1 := by
            change ((ts.map V.ref).drop 1)[i]? = some y1 at hy
            rw [List.getElem?_drop, Nat.add_comm] at hy
            exact hy
          rw [List.getElem?_map] at hx' hy'
          obtain ⟨u1, hu1, rfl⟩ := Option.map_eq_some_iff.mp hx'
          obtain ⟨u2, hu2, rfl⟩ := Option.map_eq_some_iff.mp hy'
          obtain ⟨p1, hp1, w1, a1, _⟩ := paired_get hp hu1
          obtain ⟨p2, hp2, w2, a2', _⟩ := paired_get hp hu2
          have ext4 : Ext H (upd H4 T (.tup [.ref u1, .ref u2])) := (e13.trans p4.1).trans (Ext.upd nT)
          refine ⟨T, _, rfl, SqT.of upd_same, rfl, _, _, rfl, _, _, rfl, rfl, rfl, ?_⟩
          refine ⟨_, rfl, u1, _, 0, .str p1.1, rfl, rfl, SqT.of (ext4 _ _ a1), rfl, _, rfl, u2, _, 0, .str p2.1, rfl, rfl, SqT.of (ext4 _ _ a2'), rfl, _, _, rfl, rfl, ?_⟩
          have up : p1.1.cps.toList < p2.1.cps.toList := by
            have g1 := (List.getElem?_eq_some_iff.mp hp1)
            have g2 := (List.getElem?_eq_some_iff.mp hp2)
            obtain ⟨l1, g1⟩ := g1
            obtain ⟨l2, g2⟩ := g2
            have := List.pairwise_iff_getElem.mp ok.up i (i + 1) l1 l2 (by omega)
            rw [g1, g2] at this
            exact this
          rw [decide_eq_true up]
          have nTD : D2 ≠ T := ne_of_none p4.2 nT
          exact ⟨_, (upd_ne nTD).trans p4.2, by rw [List.length_map, List.length_replicate, sizeLine_eq]; omega, p4.turn nD2 (Ext.upd nT)⟩
        · refine ⟨D2, _, rfl, SqL.of p4.2, ?_⟩
          rw [all_true]
          exact q H4 (e13.trans p4.1)
end
end K34
set_option Elab.async false
set_option linter.all false
set_option maxRecDepth 100000
set_option maxHeartbeats 2000000
/-! K34K: casks. -/
namespace K34
open PySem PySem.Spec PyProof.Rows L2
/-- a cask: the figures of its mark, its day, its parts -/
structure CK where
  fig : List Nat
  since : Int
  parts : List (Str × Rat)
structure CkOk (k : CK) : Prop where
  fig : FigOk k.fig
  d0 : 0 ≤ k.since
  d1 : k.since ≤ 1200
  parts : PartsOk k.parts
/-- how much of a ware -/
def wqs (ps : List (Str × Rat)) (z : Str) : List Rat := (ps.filter fun p => decide (p.1 = z)).map (·.2)
def wof (ps : List (Str × Rat)) (z : Str) : Rat := (wqs ps z).sum
theorem wqs_sub {ps : List (Str × Rat)} {z : Str} {q : Rat} (h : q ∈ wqs ps z) : (z, q) ∈ ps := by
  obtain ⟨p, hp, rfl⟩ := List.mem_map.mp h
  obtain ⟨h1, h2⟩ := List.mem_filter.mp hp
  obtain rfl := of_decide_eq_true h2
  exact h1
theorem wof_nn {ps : List (Str × Rat)} (ok : PartsOk ps) (z : Str) : 0 ≤ wof ps z := sum_nn fun q hq => Rat.le_of_lt (ok.pos _ (wqs_sub hq))
abbrev CC (K : PySem.W.Frag) : Addr := He.ga K "Cask"
section
variable {P : Program} {w : World} {K : PySem.W.Frag} {mg : Str → Option Value} {base : Heap}
def ckFs (f : List Nat) (d : Int) (t : Addr) : List (Str × V) := [("mark", .str (mk f)), ("since", .int d), ("parts", .ref t)]
def CaskAt (K : PySem.W.Frag) (H : Hp) (c : Addr) (k : CK) : Prop := ∃ dx t, H c = some (.ins (CC K) dx (ckFs k.fig k.since t)) ∧ PartsAt K H t k.parts
theorem CaskAt.kp {H H' : Hp} {c : Addr} {k : CK} (h : CaskAt K H c k) (e : Kp H H') : CaskAt K H' c k := let ⟨dx, t, a, b⟩ := h; ⟨dx, t, e _ _ a (fun _ z => by cases z) (fun _ z => by cases z), b.kp e⟩
/-! ### Cask(mark, since, parts) -/
def spCi (K : PySem.W.Frag) : Sp := fun vs H Q _ => ∃ (p : Addr) (f : List Nat) (d : Int) (t : Addr) (ps : List (Str × Rat)) (dx : Addr), vs = [.ref p, .str (mk f), .int d, .ref t] ∧ FigOk f ∧ 0 ≤ d ∧ d ≤ 1200 ∧ PartsAt K H t ps ∧ PartsOk ps ∧
  H p = some (.ins (CC K) dx []) ∧ ∀ H', (∀ b o, b ≠ p → H b = some o → H' b = some o) → H' p = some (.ins (CC K) dx (ckFs f d t)) → Q .non H'
theorem scCi : FnScope ["self", "mark", "since", "parts"] ["self", "mark", "since", "parts"] (defScope (inClass (top 31) 0)) := ⟨rfl, rfl, rfl, by decide +kernel, rfl, by decide +kernel, by decide +kernel⟩
theorem len_ci : Len 4 (spCi K) := fun vs H Q E h => by
  obtain ⟨p, f, d, t, ps, dx, rfl, _⟩ := h
  rfl
theorem body_ci (Z : Wd K mg) : Body P w K mg base C8.CX0 ["self", "mark", "since", "parts"] 3 "Cask.__init__" (inClass (top 31) 0) (He.ma K (He.ga K "Cask") "__init__") (spCi K) := by
  intro cdv A outer s H vs Q E hr h
  obtain ⟨p, f, d, t, ps, dx, rfl, hf, d0, d1, hp, ok, hH, q⟩ := h
  refine ⟨_, PSs.nox (pss_cons (ps_if (pt_cmpR op_isN (pv 3) pe_non (nomark _)) pss_never pss_nil)
    (pss_cons (ps_if (pt_not (pt_val (C8.pe_c (ok_mark (P := P) (w := w) (base := base) Z) hr (by decide) (by rfl) (pa_cons (pv 1) pa_nil)))) pss_never pss_nil)
    (pss_cons (ps_if (pt_not (pt_val (C8.pe_c (ok_day (P := P) (w := w) (base := base) Z) hr (by decide) (by rfl) (pa_cons (pv 2) pa_nil)))) pss_never pss_nil)
    (pss_cons (ps_if (pt_not (pt_val (C8.pe_c (ok_parts (P := P) (w := w) (base := base) Z) hr (by decide) (by rfl) (pa_cons (pv 3) pa_nil)))) pss_never pss_nil)
    (pss_cons (ps_fld (pv 0) (pv 1) rfl) (pss_cons (ps_fld (pv 0) (pv 2) rfl) (pss_one (ps_fld (pv 0) (pv 3) rfl)))))))), ?_⟩
  refine ⟨_, rfl, rfl, false, rfl, iteF (nxt ?_)⟩
  refine ⟨_, rfl, f, rfl, hf, fun H1 e1 => ⟨true, rfl, iteF (nxt ?_)⟩⟩
  refine ⟨_, rfl, d, rfl, d0, d1, true, rfl, iteF (nxt ?_)⟩
  refine ⟨_, rfl, t, ps, rfl, hp.kp (Kp.of e1), ok, fun H2 e2 => ⟨true, rfl, iteF (nxt ?_)⟩⟩
  refine ⟨_, rfl, _, rfl, p, _, dx, _, rfl, e2 _ _ (e1 _ _ hH), Z.cl_Cask, Z.n_Cask_mark, (by show 0 < 1000; decide), ?_⟩
  refine ⟨_, rfl, _, rfl, p, _, dx, _, rfl, upd_same, Z.cl_Cask, Z.n_Cask_since, (by show 1 < 1000; decide), ?_⟩
  refine ⟨_, rfl, _, rfl, p, _, dx, _, rfl, upd_same, Z.cl_Cask, Z.n_Cask_parts, (by show 2 < 1000; decide), ?_⟩
  refine q _ (fun b o hb z => ?_) upd_same
  rw [upd_ne hb, upd_ne hb, upd_ne hb]
  exact e2 _ _ (e1 _ _ z)
theorem mak_c (Z : Wd K mg) : C8.Mak P w K mg base 4 "Cask" (CC K) (spCi K) [] := by
  obtain ⟨fd, F⟩ := Z.d_Cask___init__
  obtain ⟨ds, hv, hb⟩ := FunD.binds1 (ps := ["self", "mark", "since", "parts"]) F 4 1 (by intro z; cases z) rfl fun T kV doc pm an cdv ct us its h1 h2 => match us, its, h1, h2 with
    | [_, _, _, _], [_], _, _ => ⟨_, rfl, rfl⟩
  exact ⟨_, fd, _, ds, Z.mk_Cask, F.ok scCi len_ci (body_ci Z), Z.g_Cask, hb, hv⟩
/-- a new cask -/
def rCk (K : PySem.W.Frag) : List V → Hp → VK → Prop := fun vs H Q => ∃ (f : List Nat) (d : Int) (t : Addr) (ps : List (Str × Rat)), vs = [.str (mk f), .int d, .ref t] ∧ FigOk f ∧ 0 ≤ d ∧ d ≤ 1200 ∧ PartsAt K H t ps ∧ PartsOk ps ∧
  ∀ p H', Ext H H' → H p = none → CaskAt K H' p ⟨f, d, ps⟩ → Q (.ref p) H'
theorem rCk_pre {H : Hp} {Q : VK} {f : List Nat} {d : Int} {t : Addr} {ps : List (Str × Rat)} (hf : FigOk f) (d0 : 0 ≤ d) (d1 : d ≤ 1200) (hp : PartsAt K H t ps) (ok : PartsOk ps) (q : ∀ p H', Ext H H' → H p = none → CaskAt K H' p ⟨f, d, ps⟩ → Q (.ref p) H')
    (a dx : Addr) (ha : H a = none) (hd : H dx = none) (ne : dx ≠ a) : spCi K [.ref a, .str (mk f), .int d, .ref t] (upd (upd H dx (.own a)) a (.ins (CC K) dx [])) (fun v H2 => v = .non ∧ Q (.ref a) H2) C8.E0 := by
  have e0 : Ext H (upd (upd H dx (.own a)) a (.ins (CC K) dx [])) := fun b o z => by
    rw [upd_ne (ne_of_none z ha), upd_ne (ne_of_none z hd)]
    exact z
  refine ⟨a, f, d, t, ps, dx, rfl, hf, d0, d1, hp.kp (Kp.of e0), ok, upd_same, fun H' k hh => ⟨rfl, ?_⟩⟩
  have e1 : Ext H H' := fun b o z => k b o (ne_of_none z ha) (e0 b o z)
  exact q a H' e1 ha ⟨dx, t, hh, hp.kp (Kp.of e1)⟩
theorem rCk_imp (vs : List V) (H : Hp) (Q : VK) (h : rCk K vs H Q) (a dx : Addr) (ha : H a = none) (hd : H dx = none) (ne : dx ≠ a) :
    spCi K (.ref a :: (vs ++ [])) (upd (upd H dx (.own a)) a (.ins (CC K) dx [])) (fun v H2 => v = .non ∧ Q (.ref a) H2) C8.E0 := by
  obtain ⟨f, d, t, ps, rfl, hf, d0, d1, hp, ok, q⟩ := h
  exact rCk_pre hf d0 d1 hp ok q a dx ha hd ne
/-! ### with_parts -/
def spWp (K : PySem.W.Frag) : Sp := fun vs H Q _ => ∃ (c t : Addr) (k : CK) (ps : List (Str × Rat)), vs = [.ref c, .ref t] ∧ CaskAt K H c k ∧ CkOk k ∧ PartsAt K H t ps ∧ PartsOk ps ∧ ∀ p H', Ext H H' → H p = none → CaskAt K H' p ⟨k.fig, k.since, ps⟩ → Q (.ref p) H'
theorem scWp : FnScope ["cask", "parts"] ["cask", "parts"] (defScope (top 32)) := ⟨rfl, rfl, rfl, by decide +kernel, rfl, by decide +kernel, by decide +kernel⟩
theorem ok_wp (Z : Wd K mg) : C8.Cal P w K mg base 6 "with_parts" (spWp K) [] := by
  refine cal (st := top 32) Z.d_with_parts Z.g_with_parts scWp (fun vs H Q E h => ?_) (fun _ _ _ _ _ _ us hl => match us, hl with | [_, _], _ => rfl) fun cdv A outer s H vs Q E hr h => ?_
  · obtain ⟨c, t, k, ps, rfl, _⟩ := h
    rfl
  · obtain ⟨c, t, k, ps, rfl, ⟨dx, t0, hc, _⟩, ck, hp, ok, q⟩ := h
    obtain ⟨fd, F⟩ := Z.d_Cask___init__
    obtain ⟨its, hb⟩ := FunD.kbindsD (ps := ["self", "mark", "since", "parts"]) F 3 ["parts"] (fun us its ws => us ++ ws) (by intro z; cases z) (fun r1 _ r3 => r1.append r3) fun T kV doc pm an cdv ct us its ws h1 h2 h3 => match us, its, ws, h1, h2, h3 with
      | [_, _, _], [_], [_], _, _, _ => ⟨_, rfl, rfl⟩
    refine ⟨_, PSs.nox (pss_one (ps_ret (pe_makeN (E := C8.E0) (n := 2) (ks := ["parts"]) Z.mk_Cask (F.ok (CX := C8.CX0) scCi len_ci (body_ci Z)) (hr.mono (by decide)) (by rfl) Z.g_Cask hb C8.pass0 (pa_cons (pe_fld (pv 0) rfl) (pa_cons (pe_fld (pv 0) rfl) pa_nil)) (pk_cons (pv 1) pk_nil)))), ?_⟩
    refine ⟨_, rfl, c, _, dx, _, _, rfl, hc, Z.cl_Cask, Z.n_Cask_mark, rfl, _, rfl, c, _, dx, _, _, rfl, hc, Z.cl_Cask, Z.n_Cask_since, rfl, _, rfl, rfl, rfl, ?_⟩
    exact rCk_pre ck.fig ck.d0 ck.d1 hp ok q
/-! ### len, part, weight_of -/
def spCl (K : PySem.W.Frag) : Sp := fun vs H Q _ => ∃ c k, vs = [.ref c] ∧ CaskAt K H c k ∧ Q (.int k.parts.length) H
theorem scCl : FnScope ["self"] ["self"] (defScope (inClass (top 31) 2)) := ⟨rfl, rfl, rfl, by decide +kernel, rfl, by decide +kernel, by decide +kernel⟩
/-- the own len -/
structure LenC (P : Program) (w : World) (K : PySem.W.Frag) (mg : Str → Option Value) (base : Heap) : Prop where
  ex : ∃ fd, FnOk P w K mg base C8.CX0 1 (He.ma K (CC K) "__len__") fd ["self"] (spCl K) ∧ Binds K fd ["self"] []
theorem lenc (Z : Wd K mg) : LenC P w K mg base := by
  obtain ⟨fd, F⟩ := Z.d_Cask___len__
  refine ⟨fd, F.ok scCl (fun vs H Q E h => ?_) (fun cdv A outer s H vs Q E hr h => ?_), F.bindsN fun _ _ _ _ _ _ us hl => match us, hl with | [_], _ => rfl⟩
  · obtain ⟨c, k, rfl, _⟩ := h
    rfl
  · obtain ⟨c, k, rfl, ⟨dx, t, hc, ts, ht, hp⟩, q⟩ := h
    refine ⟨_, PSs.nox (pss_one (ps_ret (pe_callB call_len_seq (by rfl) Z.f_len PySem.boot_len (pa_cons (pe_fld (pv 0) rfl) pa_nil)))), ?_⟩
    refine ⟨_, rfl, c, _, dx, _, _, rfl, hc, Z.cl_Cask, Z.n_Cask_parts, rfl, t, _, rfl, .inr (SqT.of ht), ?_⟩
    rw [← Paired.length hp] at q
    rw [List.length_map]
    exact q
def spPa (K : PySem.W.Frag) : Sp := fun vs H Q _ => ∃ c k z q, vs = [.ref c, .str z] ∧ CaskAt K H c k ∧ PartsOk k.parts ∧ (z, q) ∈ k.parts ∧ ∀ p, WAt K H p q → Q (.ref p) H
theorem scPa : FnScope ["self", "ware", "one", "weight"] ["self", "ware"] (defScope (inClass (top 31) 5)) := ⟨rfl, rfl, rfl, by decide +kernel, rfl, by decide +kernel, by decide +kernel⟩
theorem ltS_irr (x : Str) : ¬ ltS x x := List.lt_irrefl _
/-- a name stands once -/
theorem part_one {ps : List (Str × Rat)} (ok : PartsOk ps) {z : Str} {q r : Rat} (h1 : (z, q) ∈ ps) (h2 : (z, r) ∈ ps) : q = r := by
  obtain ⟨i, hi⟩ := List.getElem?_of_mem h1
  obtain ⟨j, hj⟩ := List.getElem?_of_mem h2
  obtain ⟨l1, g1⟩ := List.getElem?_eq_some_iff.mp hi
  obtain ⟨l2, g2⟩ := List.getElem?_eq_some_iff.mp hj
  rcases Nat.lt_trichotomy i j with h | h | h
  · have := List.pairwise_iff_getElem.mp ok.up i j l1 l2 h
    rw [g1, g2] at this
    exact absurd this (ltS_irr z)
  · subst h
    rw [g1] at g2
    injection g2
  · have := List.pairwise_iff_getElem.mp ok.up j i l2 l1 h
    rw [g1, g2] at this
    exact absurd this (ltS_irr z)
theorem met_pa (Z : Wd K mg) : C8.Met P w K mg base 1 (CC K) "part" (spPa K) [] := by
  refine met (C := "Cask") (st := inClass (top 31) 5) Z.d_Cask_part Z.cl_Cask Z.m_Cask_part scPa (fun vs H Q E h => ?_) (fun _ _ _ _ _ _ us hl => match us, hl with | [_, _], _ => rfl) fun cdv A outer s H vs Q E hr h => ?_
  · obtain ⟨c, k, z, q, rfl, _⟩ := h
    rfl
  · obtain ⟨c, k, z, q, rfl, ⟨dx, t, hc, ts, ht, hp⟩, ok, hq, g⟩ := h
    refine ⟨_, PSs.nox (pss_cons (ps_for PassesOwn.never rfl (pi_tup (pe_fld (pv 0) rfl)) (pg_tup rfl (pgs_cons (pg_name (i := 2) scPa.nd rfl (Or.inl rfl)) (pgs_cons (pg_name (i := 3) scPa.nd rfl (Or.inl rfl)) pgs_nil)))
      (pss_one (ps_if (pt_cmpR op_eq (pv 2) (pv 1) (nomark _)) (pss_one (ps_ret (pv 3))) pss_nil))) (pss_one ps_never)), ?_⟩
    refine ⟨_, rfl, c, _, dx, _, _, rfl, hc, Z.cl_Cask, Z.n_Cask_parts, rfl, t, rfl, ⟨_, SqT.of ht⟩, ?_⟩
    refine for_tup (xs := ts.map V.ref) (fun i σ H1 => H1 = H ∧ (∃ a b, σ = [some (.ref c), some (.str z), a, b]) ∧ ∀ j p, j < i → k.parts[j]? = some p → p.1 ≠ z) ⟨rfl, ⟨_, _, rfl⟩, fun j p hj => absurd hj (Nat.not_lt_zero _)⟩ (fun i σ H1 _ p => by rw [p.1]; exact SqT.of ht) (fun i x σ H1 hx p => ?_) fun σ H1 p => ?_
    · obtain ⟨rfl, ⟨a, b, rfl⟩, no⟩ := p
      rw [List.getElem?_map] at hx
      obtain ⟨u, hu, rfl⟩ := Option.map_eq_some_iff.mp hx
      obtain ⟨p, hpp, v, hv, wv⟩ := paired_get hp hu
      refine ⟨u, _, rfl, SqT.of hv, rfl, _, _, rfl, _, _, rfl, rfl, ?_⟩
      refine ⟨_, rfl, _, rfl, rfl, _, rfl, ?_⟩
      by_cases e : p.1 = z
      · rw [decide_eq_true (by rw [e])]
        refine iteT ⟨_, rfl, g v ?_⟩
        have hm : (z, p.2) ∈ k.parts := by
          have := List.mem_of_getElem? hpp
          rw [← e]
          exact this
        rw [part_one ok hq hm]
        exact wv
      · rw [decide_eq_false (fun y => e (by injection y))]
        refine iteF (nxt ⟨rfl, ⟨_, _, rfl⟩, fun j p' hj hp' => ?_⟩)
        by_cases hji : j = i
        · subst hji
          rw [hpp] at hp'
          cases hp'
          exact e
        · exact no j p' (by omega) hp'
    · obtain ⟨_, _, no⟩ := p
      obtain ⟨i, hi⟩ := List.getElem?_of_mem hq
      have : i < k.parts.length := (List.getElem?_eq_some_iff.mp hi).1
      rw [← Paired.length hp] at this
      exact no i _ (by rw [List.length_map]; exact this) hi rfl
end
end K34
set_option Elab.async false
set_option linter.all false
set_option maxRecDepth 100000
set_option maxHeartbeats 2000000
/-! K34K2: weight_of, lessened. -/
namespace K34
open PySem PySem.Spec PyProof.Rows L2
theorem wqs_take {ps : List (Str × Rat)} {z : Str} {i : Nat} {p : Str × Rat} (h : ps[i]? = some p) : wqs (ps.take (i + 1)) z = if p.1 = z then wqs (ps.take i) z ++ [p.2] else wqs (ps.take i) z := by
  unfold wqs
  rw [take_snoc h, List.filter_append, List.map_append]
  by_cases e : p.1 = z
  · rw [if_pos e]
    simp [e]
  · rw [if_neg e]
    simp [e]
/-- a part that is lessened to r, or gone -/
def lessF (z : Str) (r : Rat) (p : Str × Rat) : Option (Str × Rat) := if p.1 = z then (if r = 0 then none else some (z, r)) else some p
def lessP (ps : List (Str × Rat)) (z : Str) (r : Rat) : List (Str × Rat) := ps.filterMap (lessF z r)
theorem lessP_take {ps : List (Str × Rat)} {z : Str} {r : Rat} {i : Nat} {p : Str × Rat} (h : ps[i]? = some p) : lessP (ps.take (i + 1)) z r = lessP (ps.take i) z r ++ (lessF z r p).toList := by
  unfold lessP
  rw [take_snoc h, List.filterMap_append]
  congr 1
theorem lessF_name {z : Str} {r : Rat} {p y : Str × Rat} (h : lessF z r p = some y) : y.1 = p.1 ∧ (y = p ∨ (y.2 = r ∧ r ≠ 0)) := by
  unfold lessF at h
  split at h
  · rename_i e
    split at h
    · cases h
    · rename_i n
      cases h
      exact ⟨e.symm, .inr ⟨rfl, n⟩⟩
  · cases h
    exact ⟨rfl, .inl rfl⟩
theorem lessP_names (z : Str) (r : Rat) : ∀ ps : List (Str × Rat), ((lessP ps z r).map (·.1)).Sublist (ps.map (·.1))
  | [] => List.Sublist.slnil
  | p :: ps => by
    unfold lessP
    cases e : lessF z r p with
    | none =>
      rw [List.filterMap_cons_none e]
      exact (lessP_names z r ps).cons _
    | some y =>
      rw [List.filterMap_cons_some e, List.map_cons, List.map_cons, (lessF_name e).1]
      exact (lessP_names z r ps).cons₂ _
theorem lessP_ok {ps : List (Str × Rat)} (ok : PartsOk ps) {z : Str} {r : Rat} (r0 : 0 ≤ r) (rs : Sz 300 r) : PartsOk (lessP ps z r) := by
  have key : ∀ y ∈ lessP ps z r, NameOk y.1 ∧ 0 < y.2 ∧ Sz 300 y.2 := fun y hy => by
    obtain ⟨p, hp, e⟩ := List.mem_filterMap.mp hy
    obtain ⟨n, v⟩ := lessF_name e
    rcases v with rfl | ⟨v1, v2⟩
    · exact ⟨ok.name _ hp, ok.pos _ hp, ok.sz _ hp⟩
    · rw [n, v1]
      refine ⟨ok.name _ hp, ?_, rs⟩
      grind
  refine ⟨Nat.le_trans (List.length_filterMap_le _ _) ok.few, fun y hy => (key y hy).1, fun y hy => (key y hy).2.1, fun y hy => (key y hy).2.2, ?_⟩
  have h1 : (ps.map (·.1)).Pairwise ltS := List.pairwise_map.mpr ok.up
  have h2 := h1.sublist (lessP_names z r ps)
  exact List.pairwise_map.mp h2
section
variable {P : Program} {w : World} {K : PySem.W.Frag} {mg : Str → Option Value} {base : Heap}
/-! ### weight_of -/
def spWof (K : PySem.W.Frag) : Sp := fun vs H Q _ => ∃ c k z, vs = [.ref c, .str z] ∧ CaskAt K H c k ∧ PartsOk k.parts ∧ ∀ p H', Ext H H' → H p = none → WAt K H' p (wof k.parts z) → Q (.ref p) H'
theorem scWof : FnScope ["self", "ware", "one", "weight"] ["self", "ware"] (defScope (inClass (top 31) 6)) := ⟨rfl, rfl, rfl, by decide +kernel, rfl, by decide +kernel, by decide +kernel⟩
def PvWof (K : PySem.W.Frag) (H0 : Hp) (D : Addr) (ps : List (Str × Rat)) (z : Str) (i : Nat) (H : Hp) : Prop := ∃ ws : List Addr, Ext H0 H ∧ H D = some (.lst (ws.map V.ref)) ∧ WsAt K H0 ws (wqs (ps.take i) z)
theorem wqs_few {ps : List (Str × Rat)} {z : Str} : (wqs ps z).length ≤ ps.length := by
  unfold wqs
  rw [List.length_map]
  exact List.length_filter_le _ _
theorem met_wof (Z : Wd K mg) : C8.Met P w K mg base 6 (CC K) "weight_of" (spWof K) [] := by
  refine met (C := "Cask") (st := inClass (top 31) 6) Z.d_Cask_weight_of Z.cl_Cask Z.m_Cask_weight_of scWof (fun vs H Q E h => ?_) (fun _ _ _ _ _ _ us hl => match us, hl with | [_, _], _ => rfl) fun cdv A outer s H vs Q E hr h => ?_
  · obtain ⟨c, k, z, rfl, _⟩ := h
    rfl
  · obtain ⟨c, k, z, rfl, ⟨dx, t, hc, ts, ht, hp⟩, ok, q⟩ := h
    have cT := ok_total (P := P) (w := w) (base := base) Z
    have few := ok.few
    have lp := Paired.length hp
    refine ⟨_, PSs.nox (pss_one (ps_ret (C8.pe_c cT hr (by decide) (by rfl) (pa_cons (pe_lc (own := [("one", 2), ("weight", 3)]) (g := gTup K 2 (gCons (gName 2) (gCons (gName 3) gNil))) (tt := tTest (tOp rEq (tVar 2) (tVar 1))) rfl scWof.nd (pi_tup (pe_fld (pv 0) rfl))
      (blkOk_by (own := [("one", 2), ("weight", 3)]) (N := ["self", "ware", "one", "weight"]) (sc := defScope (inClass (top 31) 6)) (by decide +kernel))
      (fun _ _ _ _ _ => pg_tup rfl (pgs_cons (pg_name (i := 2) scWof.nd rfl (Or.inl rfl)) (pgs_cons (pg_name (i := 3) scWof.nd rfl (Or.inl rfl)) pgs_nil))) (fun _ _ _ _ _ => pts_one (pt_cmpR op_eq (pv 2) (pv 1) (nomark _)))
      (fun _ _ _ _ _ => pv 3)) pa_nil)))), ?_⟩
    refine ⟨_, rfl, c, _, dx, _, _, rfl, hc, Z.cl_Cask, Z.n_Cask_parts, rfl, t, rfl, ⟨_, SqT.of ht⟩, fun D nD => lc_it (walk_tup (xs := ts.map V.ref)) (PvWof K H D k.parts z) ⟨[], Ext.upd nD, upd_same, .nil⟩ (fun i H1 _ ⟨_, e, _⟩ => SqT.of (e _ _ ht)) (fun i x H1 H2 hi p y => ?_) fun H1 p => ?_⟩
    · obtain ⟨rfl, hx⟩ := y
      obtain ⟨ws, e, hD, hw⟩ := p
      rw [List.getElem?_map] at hx
      obtain ⟨u, hu, rfl⟩ := Option.map_eq_some_iff.mp hx
      obtain ⟨pp, hpp, v, hv, wv⟩ := paired_get hp hu
      refine ⟨u, _, rfl, SqT.of (e _ _ hv), rfl, _, _, rfl, _, _, rfl, rfl, rfl, ?_⟩
      refine ⟨_, rfl, _, rfl, rfl, _, rfl, ?_⟩
      have wt := wqs_take (z := z) hpp
      by_cases ez : pp.1 = z
      · rw [decide_eq_true (by rw [ez])]
        rw [if_pos ez] at wt
        refine iteT ⟨_, rfl, _, hD, ?_, ws ++ [v], Ext.put e nD, ?_, ?_⟩
        · have l1 := hw.len
          have l2 : (wqs (k.parts.take i) z).length ≤ (k.parts.take i).length := wqs_few
          rw [List.length_map, sizeLine_eq, l1]
          rw [List.length_take] at l2
          omega
        · rw [upd_same, List.map_append]
          rfl
        · rw [wt]
          exact paired_snoc wv hw
      · rw [decide_eq_false (fun y => ez (by injection y))]
        rw [if_neg ez] at wt
        exact iteF ⟨ws, e, hD, by rw [wt]; exact hw⟩
    · obtain ⟨ws, e, hD, hw⟩ := p
      rw [List.length_map, lp, List.take_length] at hw
      refine ⟨D, ws, wqs k.parts z, 300, rfl, .inl (SqL.of hD), hw.ext e, fun q hq => ⟨Rat.le_of_lt (ok.pos _ (wqs_sub hq)), ok.sz _ (wqs_sub hq)⟩, by decide, ?_, fun p H' e' np wp => q p H' (e.trans e') (fresh_of e np) wp⟩
      have l3 := wqs_few (ps := k.parts) (z := z)
      have : ((wqs k.parts z).length + 1) * (300 + 1) ≤ 5 * 301 := Nat.mul_le_mul_right _ (by omega)
      omega
/-! ### lessened -/
def spLe (K : PySem.W.Frag) : Sp := fun vs H Q _ => ∃ (c wp : Addr) (k : CK) (z : Str) (q r : Rat) (n : Nat), vs = [.ref c, .str z, .ref wp] ∧ CaskAt K H c k ∧ CkOk k ∧ (z, q) ∈ k.parts ∧ WAt K H wp r ∧ 0 ≤ r ∧ r ≤ q ∧ Sz n r ∧ 0 < n ∧ n ≤ 7000 ∧ Sz 300 (q - r) ∧
  ∀ p H', Ext H H' → H p = none → CaskAt K H' p ⟨k.fig, k.since, lessP k.parts z (q - r)⟩ → Q (.ref p) H'
theorem scLe : FnScope ["self", "ware", "weight", "left", "found", "one", "here"] ["self", "ware", "weight"] (defScope (inClass (top 31) 7)) := ⟨rfl, rfl, rfl, by decide +kernel, rfl, by decide +kernel, by decide +kernel⟩
def PvLe (K : PySem.W.Frag) (H0 : Hp) (c wp l D : Addr) (z : Str) (r : Rat) (ps : List (Str × Rat)) (i : Nat) (σ : L2.St) (H : Hp) : Prop :=
  (∃ a b, σ = [some (.ref c), some (.str z), some (.ref wp), some (.ref l), some (.ref D), a, b]) ∧ Ext H0 H ∧ WAt K H l r ∧ ∃ ts : List Addr, H D = some (.lst (ts.map V.ref)) ∧ Paired (PartAt K H) ts (lessP (ps.take i) z r)
theorem met_le (Z : Wd K mg) : C8.Met P w K mg base 7 (CC K) "lessened" (spLe K) [] := by
  refine met (C := "Cask") (st := inClass (top 31) 7) Z.d_Cask_lessened Z.cl_Cask Z.m_Cask_lessened scLe (fun vs H Q E h => ?_) (fun _ _ _ _ _ _ us hl => match us, hl with | [_, _, _], _ => rfl) fun cdv A outer s H vs Q E hr h => ?_
  · obtain ⟨c, wp, k, z, q, r, n, rfl, _⟩ := h
    rfl
  · obtain ⟨c, wp, k, z, q, r, n, rfl, hca, ck, hq, hw, r0, rq, rs, n0, n7, zs, g⟩ := h
    obtain ⟨dx, t, hc, ts, ht, hp⟩ := id hca
    have mP := met_pa (P := P) (w := w) (base := base) Z
    have mL := met_less (P := P) (w := w) (base := base) Z
    have mN := met_nought (P := P) (w := w) (base := base) Z
    have cW := ok_wp (P := P) (w := w) (base := base) Z
    have lp := Paired.length hp
    have few := ck.parts.few
    refine ⟨_, PSs.nox (pss_cons (ps_set (i := 3) scLe.nd rfl (.inl rfl) (C8.pe_mt mL hr (by decide) (C8.pe_mt mP hr (by decide) (pv 0) (pa_cons (pv 1) pa_nil)) (pa_cons (pv 2) pa_nil)))
      (pss_cons (ps_set (i := 4) scLe.nd rfl (.inl rfl) (pe_lst pa_nil))
      (pss_cons (ps_for PassesOwn.never rfl (pi_tup (pe_fld (pv 0) rfl)) (pg_tup rfl (pgs_cons (pg_name (i := 5) scLe.nd rfl (Or.inl rfl)) (pgs_cons (pg_name (i := 6) scLe.nd rfl (Or.inl rfl)) pgs_nil)))
        (pss_one (ps_if (pt_cmpR op_ne (pv 5) (pv 1) (nomark _)) (pss_one (ps_expr (pe_bm PySem.F.plainAttrs_list PySem.F.slot_list_append PySem.F.type_list_append mt_append (pv 4) (pa_cons (pe_tup (pa_cons (pv 5) (pa_cons (pv 6) pa_nil))) pa_nil))))
          (pss_one (ps_if (pt_not (pt_val (C8.pe_mt0 mN hr (by decide) (pv 3)))) (pss_one (ps_expr (pe_bm PySem.F.plainAttrs_list PySem.F.slot_list_append PySem.F.type_list_append mt_append (pv 4) (pa_cons (pe_tup (pa_cons (pv 5) (pa_cons (pv 3) pa_nil))) pa_nil)))) pss_nil)))))
      (pss_one (ps_ret (C8.pe_c cW hr (by decide) (by rfl) (pa_cons (pv 0) (pa_cons (pe_callTy call_tuple_of (by rfl) Z.f_tuple (by decide +kernel) (pa_cons (pv 4) pa_nil)) pa_nil)))))))), ?_⟩
    refine ⟨_, rfl, c, dx, _, rfl, hc, rfl, _, rfl, c, k, z, q, rfl, hca, ck.parts, hq, fun pw wpw => ?_⟩
    obtain ⟨dw, wpw'⟩ := id wpw
    refine ⟨pw, dw, _, rfl, wpw', rfl, _, rfl, pw, wp, q, r, 300, n, rfl, wpw, hw, r0, rq, ck.parts.sz _ hq, rs, by decide, n0, by omega, fun l H1 e1 nl wl => ?_⟩
    refine ⟨by decide, fun D nD => ?_⟩
    have e2 : Ext H (upd H1 D (.lst [])) := Ext.put e1 (fresh_of e1 nD)
    refine ⟨_, rfl, c, _, dx, _, _, rfl, e2 _ _ hc, Z.cl_Cask, Z.n_Cask_parts, rfl, t, rfl, ⟨_, SqT.of (e2 _ _ ht)⟩, for_it (walk_tup (xs := ts.map V.ref)) (PvLe K H c wp l D z (q - r) k.parts) ⟨⟨_, _, rfl⟩, e2, wl.kp (Kp.new nD), [], upd_same, .nil⟩
      (fun i σ H1 _ ⟨_, e, _⟩ => SqT.of (e _ _ ht)) (fun i x σ H2 H3 hi p y => ?_) fun σ H2 p => ?_⟩
    · obtain ⟨⟨a, b, rfl⟩, e, wl, ts', hD, hts⟩ := p
      obtain ⟨rfl, hx⟩ := y
      rw [List.getElem?_map] at hx
      obtain ⟨u, hu, rfl⟩ := Option.map_eq_some_iff.mp hx
      obtain ⟨pp, hpp, v, hv, wv⟩ := paired_get hp hu
      have hl : ts'.length < 1000 := by
        have l1 := Paired.length hts
        have l2 : (lessP (k.parts.take i) z (q - r)).length ≤ (k.parts.take i).length := List.length_filterMap_le _ _
        rw [List.length_take] at l2
        omega
      have hls : (ts'.map V.ref).length < sizeLine := by rw [List.length_map, sizeLine_eq]; omega
      have lt := lessP_take (z := z) (r := q - r) hpp
      refine ⟨u, _, rfl, SqT.of (e _ _ hv), rfl, _, _, rfl, _, _, rfl, rfl, ?_⟩
      refine ⟨_, rfl, _, rfl, rfl, _, rfl, ?_⟩
      have nDH : H D = none := fresh_of e1 nD
      by_cases ez : pp.1 = z
      · rw [decide_eq_true (show V.str pp.1 = V.str z by rw [ez])]
        refine iteF ?_
        obtain ⟨dl, wl'⟩ := id wl
        refine ⟨_, rfl, l, dl, _, rfl, wl', rfl, l, q - r, rfl, wl, _, rfl, ?_⟩
        by_cases r00 : q - r = 0
        · rw [decide_eq_true r00]
          refine iteF (nxt ⟨⟨_, _, rfl⟩, e, wl, ts', hD, ?_⟩)
          rw [lt, show lessF z (q - r) pp = none by unfold lessF; rw [if_pos ez, if_pos r00]]
          simpa using hts
        · rw [decide_eq_false r00]
          refine iteT ?_
          refine ⟨_, rfl, .inl ⟨rfl, _, SqL.of hD⟩, _, rfl, _, rfl, (by show 2 ≤ sizeLine; rw [sizeLine_eq]; omega), fun T nT => ?_⟩
          have nTD : D ≠ T := ne_of_none hD nT
          have hD' : upd H3 T (.tup [.str pp.1, .ref l]) D = some (.lst (ts'.map V.ref)) := (upd_ne nTD).trans hD
          have kp : Kp H3 (upd (upd H3 T (.tup [.str pp.1, .ref l])) D (.lst (ts'.map V.ref ++ [.ref T]))) := (Kp.new nT).trans (Kp.put hD')
          refine ⟨D, _, _, rfl, rfl, hD', hls, ⟨_, _, rfl⟩, Ext.put (e.trans (Ext.upd nT)) nDH, wl.kp kp, ts' ++ [T], ?_, ?_⟩
          · rw [upd_same, List.map_append]
            rfl
          · rw [lt, show lessF z (q - r) pp = some (z, q - r) by unfold lessF; rw [if_pos ez, if_neg r00]]
            refine paired_snoc ⟨l, ?_, wl.kp kp⟩ (paired_mono (fun _ _ y => y.kp kp) hts)
            rw [upd_ne (Ne.symm nTD), upd_same, ez]
      · rw [decide_eq_false (show ¬ V.str pp.1 = V.str z from fun y => ez (by injection y))]
        refine iteT ?_
        refine ⟨_, rfl, .inl ⟨rfl, _, SqL.of hD⟩, _, rfl, _, rfl, (by show 2 ≤ sizeLine; rw [sizeLine_eq]; omega), fun T nT => ?_⟩
        have nTD : D ≠ T := ne_of_none hD nT
        have hD' : upd H3 T (.tup [.str pp.1, .ref v]) D = some (.lst (ts'.map V.ref)) := (upd_ne nTD).trans hD
        have kp : Kp H3 (upd (upd H3 T (.tup [.str pp.1, .ref v])) D (.lst (ts'.map V.ref ++ [.ref T]))) := (Kp.new nT).trans (Kp.put hD')
        refine ⟨D, _, _, rfl, rfl, hD', hls, ⟨_, _, rfl⟩, Ext.put (e.trans (Ext.upd nT)) nDH, wl.kp kp, ts' ++ [T], ?_, ?_⟩
        · rw [upd_same, List.map_append]
          rfl
        · rw [lt, show lessF z (q - r) pp = some pp by unfold lessF; rw [if_neg ez]]
          refine paired_snoc ⟨v, ?_, (wv.ext e).kp kp⟩ (paired_mono (fun _ _ y => y.kp kp) hts)
          rw [upd_ne (Ne.symm nTD), upd_same]
    · obtain ⟨⟨a, b, rfl⟩, e, wl, ts', hD, hts⟩ := p
      rw [List.length_map, lp, List.take_length] at hts
      have rr : 0 ≤ q - r := by grind
      refine ⟨_, rfl, _, rfl, D, _, rfl, .inl ⟨SqL.of hD, fun T nT => ?_⟩⟩
      refine ⟨c, T, k, lessP k.parts z (q - r), rfl, (hca.kp (Kp.of e)).kp (Kp.new nT), ck, ⟨ts', upd_same, paired_mono (fun _ _ y => y.kp (Kp.new nT)) hts⟩, lessP_ok ck.parts rr zs, fun p H' e' np cp => g p H' ((e.trans (Ext.upd nT)).trans e') (fresh_of (e.trans (Ext.upd nT)) np) cp⟩
end
end K34
set_option Elab.async false
set_option linter.all false
set_option maxRecDepth 100000
set_option maxHeartbeats 2000000
/-! K34A: sorted by a lambda with one parameter; by a def. -/
namespace K34
open PySem PySem.Spec PyProof.Rows L2
/-! ### a lambda called -/
section
variable {P : Program} {w : World} {K : PySem.W.Frag} {mg : Str → Option Value} {base : Heap}
theorem lam_run {f c' : Addr} {q : Str} {params : Arguments} {body : Expr} {scope : Scope} {pm ctv : Value} {N ps : List Str} {k : Nat} {A : Around} {outer : List Env} {s : Shared} {H : Hp} {us : List Value} {vs : List V} {Q : VK} {E : XK}
    (of : s.heap.get? f = some (PySem.W.kla_obj "<lambda>" q params body scope [] pm c' ctv)) (hrec : s.heap.CodeRec (.ref c') q) (S : FnScope N ps scope) (hr : Room (k + 1) A) (e0 : Env0 P w K mg base A outer s H)
    (hb : bindArgs (PySem.W.kla_fn "<lambda>" q params body scope [] pm (.ref c') ctv) ⟨us, []⟩ = pure (ps.zip us)) (r : Vals vs us) (hl : vs.length = ps.length)
    (hbody : Room k (A.deeper (envOfC q scope s.heap.objs.size f (.ref c'))) → ∃ t : TE, PE (cxOf C8.CX0 P w K mg base N q scope f (.ref c') A outer s H E) body t ∧ t (L2.start N vs) H Q) :
    codeAny (model P w) A (.call (.ref f) ⟨us, []⟩) (CR C8.CX0 outer P w H s Q E) s := by
  have lim : s.heap.NoLimit := e0.mod.nolimit.keeps fun b o e => (e0.bs b o e).1
  have kinds : ∀ y ∈ ps.zip us, scope.names.lookup y.1 = some .local ∨ (scope.names.lookup y.1 = some .cell ∧ ((cellsFrom (s.heap.objs.size + 1) scope.names []).lookup y.1).isSome = true) := fun ⟨n, v⟩ hy => by
    rcases S.par n (List.of_mem_zip hy).1 with z | z
    · exact .inl z
    · exact .inr ⟨z, PySem.W.cellsFrom_some _ _ _ (.inl z)⟩
  refine PySem.W.kla_callFunE hr.depth of rfl S.co S.gen rfl hrec ?_
  rw [hb]
  refine wpAny_pure (wpAny_newFunctionEnv_cells S.kind kinds fun env he s1 x => ?_)
  subst he
  refine ⟨lim.keeps x.toInCall.keep, ?_⟩
  obtain ⟨t, ht, hq⟩ := hbody (hr.deeper _)
  have I : Inv (cxOf C8.CX0 P w K mg base N q scope f (.ref c') A outer s H E) [] (L2.start N vs) H s1 := inv_start S hr.hd e0 hl r x
  refine PySem.W.kla_codeExpr (wpAny_mono (ht.run [] s1 (L2.start N vs) H Q I hq) (fun v s' z => ?_) fun _ _ z => z)
  obtain ⟨y, H', J, rv, z⟩ := z
  exact ⟨y, H', J.os, J.bare, J.base, J.hok, rv, z⟩
end
/-- all kept, for a reading -/
def KeyWish (H : Hp) (x y : V) : VK := fun v H' => ∃ p, v = .ref p ∧ Ext H H' ∧ H' p = some (.tup [x, y])
section
variable {X : Cx} {α : Type} {pins : List (Addr × Obj)} {σ : L2.St} {H : Hp} {s : Shared} {vf k1 k2 : α → V} {bs : List α}
/-- a call's end, as a key's -/
theorem key_end {pins : List (Addr × Obj)} {σ : L2.St} {H : Hp} {s : Shared} {x y : V} {f : Addr} {args : Args} {A : Around} (I : Inv X pins σ H s) (h : codeAny (model X.prog X.w) A (.call (.ref f) args) (CR C8.CX0 X.stack X.prog X.w H s (KeyWish H x y) C8.E0) s) :
    codeAny (model X.prog X.w) A (.call (.ref f) args) (fun r s' => ∃ v, r = .ok (.ret v) ∧ KeyGot X pins σ H x y v s') s := by
  refine codeAny_mono h fun r s' hq => ?_
  cases r with
  | error e => exact (show False from hq).elim
  | ok fl =>
    cases fl with
    | ret u =>
      obtain ⟨v, H', J, rv, p, ev, ex, hp⟩ := I.after hq
      subst ev
      obtain rfl : u = Value.ref p := rv
      exact ⟨_, rfl, p, H', rfl, J, ex, hp⟩
    | next => exact False.elim hq
    | brk => exact False.elim hq
    | cont => exact False.elim hq
theorem key_call {pins : List (Addr × Obj)} {σ : L2.St} {H : Hp} {s : Shared} {x y : V} {f : Addr} {us : List Value} {A : Around} (I : Inv X pins σ H s) (h : codeAny (model X.prog X.w) A (.call (.ref f) ⟨us, []⟩) (CR C8.CX0 X.stack X.prog X.w H s (KeyWish H x y) C8.E0) s) :
    wpAny (model X.prog X.w) A (call (.ref f) us) (KeyGot X pins σ H x y) (fun _ _ => False) s := by
  refine wpAny_call (codeAny_mono (key_end I h) fun r s' hq => ?_)
  obtain ⟨v, rfl, g⟩ := hq
  exact g
/-- the Around of a call, two built-ins deeper -/
theorem env0_in (I : Inv X pins σ H s) : Env0 X.prog X.w X.K X.mg X.base X.A.in1.in1 X.stack s H := I.env0.in1.in1
theorem keyCalls_lam {f c' : Addr} {q : Str} {params : Arguments} {body : Expr} {scope : Scope} {pm ctv : Value} {a : Str} {k : Nat} {tb : TE} (hf : (f, PySem.W.kla_obj "<lambda>" q params body scope [] pm c' ctv) ∈ pins) (hc : H c' = some (LamX.CodeO c' q))
    (S : FnScope [a] [a] scope) (hr : Room (k + 3) X.A) (hb : ∀ u : Value, bindArgs (PySem.W.kla_fn "<lambda>" q params body scope [] pm (.ref c') ctv) ⟨[u], []⟩ = pure [(a, u)])
    (hbody : ∀ (A : Around) (outer : List Env) (s : Shared) (H : Hp), Room k (A.deeper (envOfC q scope s.heap.objs.size f (.ref c'))) → PE (cxOf C8.CX0 X.prog X.w X.K X.mg X.base [a] q scope f (.ref c') A outer s H C8.E0) body tb)
    (ht : ∀ b ∈ bs, ∀ H', Ext H H' → tb (L2.start [a] [vf b]) H' (KeyWish H' (k1 b) (k2 b))) : KeyCalls X (.ref f) vf k1 k2 pins σ H bs := by
  intro b u more H' s' hbm ru ex I
  have of : s'.heap.get? f = some (PySem.W.kla_obj "<lambda>" q params body scope [] pm c' ctv) := (I.pin (f, _) (List.mem_append_right _ (List.mem_append_left _ hf))).1
  obtain ⟨⟨oc, vs, t, hoc, hd, hv⟩, _, _⟩ := I.hok c' _ (ex _ _ hc)
  exact key_call I (lam_run of ⟨c', oc, vs, t, rfl, hoc, hd, hv⟩ S hr.in1.in1 (env0_in I) (hb u) (.cons ru .nil) rfl fun hr' => ⟨tb, hbody _ _ _ _ hr', ht b hbm H' ex⟩)
theorem keyCalls_def {f : Addr} {fd : FuncData} {a : Str} {k : Nat} {sp : Sp} (F : FnOk X.prog X.w X.K X.mg X.base C8.CX0 k f fd [a] sp) (hb : Binds X.K fd [a] []) (hr : Room (k + 2) X.A)
    (ht : ∀ b ∈ bs, ∀ H', Ext H H' → sp [vf b] H' (KeyWish H' (k1 b) (k2 b)) C8.E0) : KeyCalls X (.ref f) vf k1 k2 pins σ H bs := by
  intro b u more H' s' hbm ru ex I
  have hB := hb s' [u] I.kIn rfl
  exact key_call I (F.run X.A.in1.in1 X.stack s' H' ⟨[u], []⟩ [u] [vf b] _ C8.E0 hr.in1.in1 (env0_in I) hB (.cons ru .nil) (ht b hbm H' ex))
end
/-! ### as rules -/
/-- what sorted of the tuple asks; EN: how the heap may go -/
def SortAsk (K : PySem.W.Frag) (KC : {α : Type} → (α → V) → (α → V) → (α → V) → List α → Hp → Prop) (EN : Hp → Hp → Prop) (x : V) (H : Hp) (Q : VK) : Prop :=
  ∃ (a : Addr) (α : Type) (bs : List α) (vf k1 k2 : α → V) (d1 d2 : α → PyData), x = .ref a ∧ SqT K H a (bs.map vf) ∧ (∀ b ∈ bs, RelD (k1 b) (d1 b)) ∧ (∀ b ∈ bs, RelD (k2 b) (d2 b)) ∧ PySem.W.AllAlike (bs.map fun b => .tuple [d1 b, d2 b]) ∧ KC vf k1 k2 bs H ∧
    ∀ p H', EN H H' → H' p = some (.lst ((bs.mergeSort (PySem.W.dataLe false fun b => .tuple [d1 b, d2 b])).map vf)) → Q (.ref p) H'
def tSortLam (K : PySem.W.Frag) (T : List (Addr × Str)) (a : Str) (te tb : TE) : TE := fun σ H Q => te σ H fun x H1 => LamX.Tabs T H1 ∧
  SortAsk K (fun vf k1 k2 bs H => ∀ b ∈ bs, ∀ H', LamX.ExtN H H' → tb (L2.start [a] [vf b]) H' (KeyWish H' (k1 b) (k2 b))) (fun H H' => LamX.ExtN H H' ∧ LamX.Tabs T H') x H1 Q
theorem SqT.extN {K : PySem.W.Frag} {H H' : Hp} {a : Addr} {xs : List V} (h : SqT K H a xs) (e : LamX.ExtN H H') : SqT K H' a xs := by
  rcases h with (h | ⟨o, h⟩) | h
  · exact .inl (.inl (e _ _ h fun _ z => by cases z))
  · exact .inl (.inr ⟨o, e _ _ h fun _ z => by cases z⟩)
  · exact .inr h
section
variable {X : Cx} {e : Expr} {te tb : TE} {p kpos lpos pos p' : Pos} {params : Arguments} {body : Expr} {scope : Scope} {a x : Str}
theorem pe_sortLam {T : List (Addr × Str)} {c P : Addr} {k : Nat} (hg : Gl X "sorted") (hm : X.mg "sorted" = none) (he : PE X e te) (TB : LamX.TabB X.base X.mg c P) (hcode : X.env.code = .ref c) (hmT : (P, X.env.qual ++ "<lambda>") ∈ T) (hu : ∀ p ∈ T, p.1 = P → p.2 = X.env.qual ++ "<lambda>")
    (hdef : defaultsOf params X.env = ([], [])) (hfree : ∀ y ∈ scope.names, y.2 ≠ .free) (hclo : cloFrom X.env.cells scope.names [] = []) (S : FnScope [a] [a] scope) (hr : Room (k + 3) X.A)
    (hb : ∀ (q : Str) (pm cv ctv u : Value), bindArgs (PySem.W.kla_fn "<lambda>" q params body scope [] pm cv ctv) ⟨[u], []⟩ = pure [(a, u)])
    (hbody : ∀ (f c' : Addr) (A : Around) (outer : List Env) (s : Shared) (H : Hp), Room k (A.deeper (envOfC (X.env.qual ++ "<lambda>") scope s.heap.objs.size f (.ref c'))) → PE (cxOf C8.CX0 X.prog X.w X.K X.mg X.base [a] (X.env.qual ++ "<lambda>") scope f (.ref c') A outer s H C8.E0) body tb)
    (hst : starEach [e] X.env = (false, eval e X.env) :: starEach [] X.env := by rfl) (hbk : backTo pos (starEach [e] X.env) = (false, eval e X.env) :: backTo pos (starEach [] X.env) := by rfl) (hpl : (backTo pos (starEach [e] X.env)).any (·.1) = false := by rfl)
    (hall : (backToKw pos (keywordEach [⟨some "key", .Lambda params body scope lpos, kpos⟩] X.env)).all (·.1.isSome) = true := by rfl) (hnone : (backToKw pos (keywordEach [⟨some "key", .Lambda params body scope lpos, kpos⟩] X.env)).any (·.1.isNone) = false := by rfl) :
    PE X (.Call (.Name "sorted" p) [e] [⟨some "key", .Lambda params body scope lpos, kpos⟩] pos) (tSortLam X.K T a te tb) := by
  refine ⟨fun pins s σ H Q I h => ?_⟩
  have hv : bootBuiltins "sorted" = some (.builtin "sorted") := by decide +kernel
  refine wpAny_Call_Name_kw (ld_blt I hg hm hv ?_ (by decide) (by decide))
  refine PyProof.Rows.callWith_kw (thn ((pa_cons he pa_nil hst).run pos pins s σ H (fun vs H1 => match vs with
    | [x] => LamX.Tabs T H1 ∧ SortAsk X.K (fun vf k1 k2 bs H => ∀ b ∈ bs, ∀ H', LamX.ExtN H H' → tb (L2.start [a] [vf b]) H' (KeyWish H' (k1 b) (k2 b))) (fun H H' => LamX.ExtN H H' ∧ LamX.Tabs T H') x H1 Q
    | _ => False) I h) fun us s1 ⟨vs, H1, I1, r1, q⟩ => ?_) hbk hpl hall hnone
  match vs, q, r1 with
  | [x], q, r1 =>
    obtain ⟨hT, ad, α, bs, vf, k1, k2, d1, d2, ex, hs, e1, e2, hal, kc, q⟩ := q
    subst ex
    obtain ⟨u, rfl, ru⟩ := vals1 r1
    obtain rfl : u = Value.ref ad := ru
    show wpAny _ _ (evalAll ((do let v ← eval (.Lambda params body scope lpos) X.env; standAt pos; pure v) :: [])) _ _ s1
    refine wpAny_evalAll_cons (wpAny_bind (LamX.lam_make2 I1 TB hcode hmT hu hT hdef (fun y hy z => absurd z (hfree y hy)) fun f c' pm ctv H2 s2 I2 eN T2 hf hfn hfr hco => wpAny_bind (wpAny_standAt (wpAny_pure ?_))))
    refine wpAny_evalAll_nil ?_
    rw [hclo] at hf
    have hfL : f ≠ X.env.locals := fun z => by
      obtain ⟨m, ⟨o', es, ep, ho', hd', _⟩, _⟩ := I2.loc
      rw [← z, hf] at ho'
      cases ho'
      cases hd'
    have hfF : f ∉ X.fs := fun z => by
      rcases I2.ok.stk with y | ⟨y, _⟩
      · exact hfr (by rw [y]; exact z)
      · rw [y] at hfr
        refine hfr ?_
        unfold frs
        rw [List.filterMap_cons]
        split
        · exact z
        · exact List.mem_cons_of_mem _ z
    have I3 : Inv X (pins ++ [(f, PySem.W.kla_obj "<lambda>" (X.env.qual ++ "<lambda>") params body scope [] pm c' ctv)]) σ H2 s2 := I2.pins_of fun z hz => by
      rcases List.mem_append.mp hz with y | y
      · exact I2.pin z (List.mem_append_right _ y)
      · rcases List.mem_cons.mp y with rfl | y
        · exact ⟨hf, hfn, hfL, hfF, fun v y => by cases y⟩
        · cases y
    show wpAny _ _ (call (.builtin "sorted") [.ref ad] [(PySem.Str.ofString "key", .ref f)]) _ _ _
    refine sorted_tup_key (k1 := k1) (k2 := k2) (d1 := d1) (d2 := d2) I3 (SqT.extN hs eN) rfl (keyCalls_lam (List.mem_append_right _ List.mem_cons_self) hco S hr (fun u => hb _ _ _ _ u) (fun A outer s H hr' => hbody f c' A outer s H hr') fun b hbm H' ex => kc b hbm H' (eN.trans (LamX.ExtN.of ex))) e1 e2 hal (by have := hr.un; omega) fun l H3 s' I4 ex nl => ?_
    have eU : Ext H2 (upd H3 l (.lst ((bs.mergeSort (PySem.W.dataLe false fun b => .tuple [d1 b, d2 b])).map vf))) := ex.trans (Ext.upd nl)
    exact ⟨.ref l, _, I4.unpinned, rfl, q l _ ⟨eN.trans (LamX.ExtN.of eU), T2.ext eU⟩ upd_same⟩
end
end K34
set_option Elab.async false
set_option linter.all false
set_option maxRecDepth 100000
set_option maxHeartbeats 2000000
/-! K34A2: casks_by_age; notes. -/
namespace K34
open PySem PySem.Spec PyProof.Rows L2
section
variable {X : Cx} {e : Expr} {te : TE} {p kpos p1 pos : Pos} {a x : Str}
theorem pe_sortDef {f : Addr} {fd : FuncData} {k : Nat} {sp : Sp} (hg : Gl X "sorted") (hm : X.mg "sorted" = none) (he : PE X e te) (hgx : Gl X x) (hmx : X.mg x = some (.ref f)) (F : FnOk X.prog X.w X.K X.mg X.base C8.CX0 k f fd [a] sp) (hb : Binds X.K fd [a] []) (hr : Room (k + 2) X.A)
    (hdb : (x == ("__debug__" : Str)) = false := by decide) (hst : starEach [e] X.env = (false, eval e X.env) :: starEach [] X.env := by rfl) (hbk : backTo pos (starEach [e] X.env) = (false, eval e X.env) :: backTo pos (starEach [] X.env) := by rfl) (hpl : (backTo pos (starEach [e] X.env)).any (·.1) = false := by rfl)
    (hall : (backToKw pos (keywordEach [⟨some "key", .Name x p1, kpos⟩] X.env)).all (·.1.isSome) = true := by rfl) (hnone : (backToKw pos (keywordEach [⟨some "key", .Name x p1, kpos⟩] X.env)).any (·.1.isNone) = false := by rfl) :
    PE X (.Call (.Name "sorted" p) [e] [⟨some "key", .Name x p1, kpos⟩] pos) (fun σ H Q => te σ H fun y H1 => SortAsk X.K (fun vf k1 k2 bs H => ∀ b ∈ bs, ∀ H', Ext H H' → sp [vf b] H' (KeyWish H' (k1 b) (k2 b)) C8.E0) Ext y H1 Q) := by
  refine ⟨fun pins s σ H Q I h => ?_⟩
  have hv : bootBuiltins "sorted" = some (.builtin "sorted") := by decide +kernel
  refine wpAny_Call_Name_kw (ld_blt I hg hm hv ?_ (by decide) (by decide))
  refine PyProof.Rows.callWith_kw (thn ((pa_cons he pa_nil hst).run pos pins s σ H (fun vs H1 => match vs with
    | [y] => SortAsk X.K (fun vf k1 k2 bs H => ∀ b ∈ bs, ∀ H', Ext H H' → sp [vf b] H' (KeyWish H' (k1 b) (k2 b)) C8.E0) Ext y H1 Q
    | _ => False) I h) fun us s1 ⟨vs, H1, I1, r1, q⟩ => ?_) hbk hpl hall hnone
  match vs, q, r1 with
  | [y], q, r1 =>
    obtain ⟨ad, α, bs, vf, k1, k2, d1, d2, ex, hs, e1, e2, hal, kc, q⟩ := q
    subst ex
    obtain ⟨u, rfl, ru⟩ := vals1 r1
    obtain rfl : u = Value.ref ad := ru
    show wpAny _ _ (evalAll ((do let v ← eval (.Name x p1) X.env; standAt pos; pure v) :: [])) _ _ s1
    refine wpAny_evalAll_cons (wpAny_bind (thn ((C8.pe_gc (v := .ref f) hgx ⟨_, hmx, rfl⟩ hdb).run pins s1 σ H1 (fun v H2 => v = .ref f ∧ H2 = H1) I1 ⟨rfl, rfl⟩) fun u2 s2 ⟨v2, H2, I2, r2, e3⟩ => wpAny_bind (wpAny_standAt (wpAny_pure ?_))))
    obtain ⟨rfl, rfl⟩ := e3
    obtain rfl : u2 = Value.ref f := r2
    refine wpAny_evalAll_nil ?_
    show wpAny _ _ (call (.builtin "sorted") [.ref ad] [(PySem.Str.ofString "key", .ref f)]) _ _ _
    refine sorted_tup_key (k1 := k1) (k2 := k2) (d1 := d1) (d2 := d2) I2 hs rfl (keyCalls_def F hb hr kc) e1 e2 hal (by have := hr.un; omega) fun l H3 s' I4 ex nl => ?_
    exact ⟨.ref l, _, I4, rfl, q l _ (ex.trans (Ext.upd nl)) upd_same⟩
end
/-! ### the order of casks -/
/-- younger casks behind older ones: since, then the number of the mark -/
def ckLe (x y : CK) : Bool := decide (x.since < y.since ∨ (x.since = y.since ∧ ((Hx.hexNum x.fig : Nat) : Int) ≤ ((Hx.hexNum y.fig : Nat) : Int)))
/-- pairs of an address and a cask, by age -/
def byAge (l : List (Addr × CK)) : List (Addr × CK) := l.mergeSort fun x y => ckLe x.2 y.2
abbrev TT (K : PySem.W.Frag) : List (Addr × Str) := [((He.cT K ("casks_by_age", none)).2, "casks_by_age.<locals>.<lambda>")]
/-- how the heap goes where the lambda may be made -/
def EN (K : PySem.W.Frag) (H H' : Hp) : Prop := LamX.ExtN H H' ∧ (LamX.Tabs (TT K) H → LamX.Tabs (TT K) H')
theorem EN.rfl' {K : PySem.W.Frag} {H : Hp} : EN K H H := ⟨LamX.ExtN.refl H, fun z => z⟩
theorem EN.trans {K : PySem.W.Frag} {H H1 H2 : Hp} (a : EN K H H1) (b : EN K H1 H2) : EN K H H2 := ⟨a.1.trans b.1, fun z => b.2 (a.2 z)⟩
theorem EN.of {K : PySem.W.Frag} {H H' : Hp} (e : Ext H H') : EN K H H' := ⟨LamX.ExtN.of e, fun z => z.ext e⟩
/-- the table of casks_by_age's code -/
structure Tb (K : PySem.W.Frag) (mg : Str → Option Value) (base : Heap) : Prop where
  t : LamX.TabB base mg (He.cT K ("casks_by_age", none)).1 (He.cT K ("casks_by_age", none)).2
section
variable {P : Program} {w : World} {K : PySem.W.Frag} {mg : Str → Option Value} {base : Heap}
def CasksAt (K : PySem.W.Frag) (H : Hp) (l : List (Addr × CK)) : Prop := ∀ x ∈ l, CaskAt K H x.1 x.2
theorem CasksAt.kp {H H' : Hp} {l : List (Addr × CK)} (h : CasksAt K H l) (e : Kp H H') : CasksAt K H' l := fun x hx => (h x hx).kp e
def spAge (K : PySem.W.Frag) : Sp := fun vs H Q _ => ∃ a l, vs = [.ref a] ∧ SqT K H a (l.map fun x : Addr × CK => V.ref x.1) ∧ CasksAt K H l ∧ (∀ x ∈ l, CkOk x.2) ∧ LamX.Tabs (TT K) H ∧
  ∀ p H', EN K H H' → H' p = some (.tup ((byAge l).map fun x => V.ref x.1)) → Q (.ref p) H'
theorem scAge : FnScope ["casks"] ["casks"] (defScope (top 33)) := ⟨rfl, rfl, rfl, by decide +kernel, rfl, by decide +kernel, by decide +kernel⟩
/-- a def's own code is known in its body -/
theorem body_code {CX : CXT} {x qual : Str} {params : Arguments} {body : List Stmt} {scope : Scope} {dvs : List V} {kws : List (Str × V)} {q : Str × Option Str} {fd : FuncData} {N ps : List Str} {k : Nat} {sp : Sp}
    (F : FunD K x qual params body scope dvs kws (He.fAd K q) fd) (S : FnScope N ps scope) (len : Len ps.length sp)
    (hbody : ∀ (A : Around) (outer : List Env) (s : Shared) (H : Hp) (vs : List V) (Q : VK) (E : XK), Room k (A.deeper (envOfC qual scope s.heap.objs.size (He.fAd K q) (.ref (He.codeOf K q)))) → sp vs H Q E →
      ∃ t, PSs (cxOf CX P w K mg base N qual scope (He.fAd K q) (.ref (He.codeOf K q)) A outer s H E) body t ∧ t { nx := fun _ H' => Q .non H', rt := Q } (L2.start N vs) H) : FnOk P w K mg base CX (k + 1) (He.fAd K q) fd ps sp := by
  obtain ⟨oc, od, dV, kV, doc, pm, an, cdv, ct, osl, rfl, lk, hcd, _, _⟩ := F.ex
  obtain ⟨c, rfl⟩ := He.codeIn_ref hcd
  have ec : He.codeOf K q = c := He.codeOf_eq lk rfl
  rw [ec] at hbody
  exact fn_of lk hcd S len fun A outer s H vs Q E hr hsp => hbody A outer s H vs Q E hr hsp
theorem ok_age (Z : Wd K mg) (TB : Tb K mg base) : C8.Cal P w K mg base 5 "casks_by_age" (spAge K) [] := by
  obtain ⟨fd, F⟩ := Z.d_casks_by_age
  refine ⟨He.ga K "casks_by_age", fd, ["casks"], [], body_code (q := ("casks_by_age", none)) F scAge (fun vs H Q E h => ?_) (fun A outer s H vs Q E hr h => ?_), Z.g_casks_by_age, F.kp, F.bindsN fun _ _ _ _ _ _ us hl => match us, hl with | [_], _ => rfl, .nil⟩
  · obtain ⟨a, l, rfl, _⟩ := h
    rfl
  · obtain ⟨a, l, rfl, hs, hc, ok, hT, q⟩ := h
    have cN := fun (X : Cx) => ok_num (P := P) (w := w) (base := base) Z
    have scK : ∀ {sc : Scope}, sc = sc → True := fun _ => trivial
    refine ⟨_, PSs.nox (pss_one (ps_ret (pe_callTy call_tuple_of (by rfl) Z.f_tuple (by decide +kernel) (pa_cons (pe_sortLam (a := "cask") (T := TT K) (k := 1) (by rfl) Z.f_sorted (pv 0) TB.t rfl List.mem_cons_self (fun p hp _ => by rw [List.mem_singleton.mp hp]; rfl) (by rfl) (by decide) (by rfl)
      ⟨rfl, rfl, rfl, by decide +kernel, rfl, by decide +kernel, by decide +kernel⟩ (hr.mono (by decide)) (fun _ _ _ _ _ => by rfl)
      (fun f c' A outer s H hr' => pe_tup (pa_cons (pe_fldK (K := K) rfl (pv 0) (by rfl)) (pa_cons (C8.pe_c (ok_num (P := P) (w := w) (base := base) Z) hr' (by decide) (by rfl) (pa_cons (pe_fldK (K := K) rfl (pv 0) (by rfl)) pa_nil)) pa_nil)))) pa_nil)))), ?_⟩
    refine ⟨_, rfl, hT, a, Addr × CK, l, fun x => .ref x.1, fun x => .int x.2.since, fun x => .int ((Hx.hexNum x.2.fig : Nat) : Int), fun x => .int x.2.since, fun x => .int ((Hx.hexNum x.2.fig : Nat) : Int), rfl, hs, fun _ _ => rfl, fun _ _ => rfl, PySem.W.AllAlike.of fun _ _ => rfl, ?_, fun p H1 en hp => ?_⟩
    · intro x hx H' eN
      obtain ⟨dx, t, hcx, _⟩ := (hc x hx).kp (Kp.ofN eN)
      refine ⟨_, rfl, x.1, _, dx, _, _, rfl, hcx, Z.cl_Cask, Z.n_Cask_since, rfl, _, rfl, x.1, _, dx, _, _, rfl, hcx, Z.cl_Cask, Z.n_Cask_mark, rfl, x.2.fig, rfl, (ok x hx).fig, (by show 2 ≤ sizeLine; rw [sizeLine_eq]; omega), fun T nT => ?_⟩
      exact ⟨T, rfl, Ext.upd nT, upd_same⟩
    · refine ⟨p, _, rfl, .inl ⟨SqL.of hp, fun T nT => q T _ (⟨en.1, fun _ => en.2⟩ |> fun z => EN.trans z (EN.of (Ext.upd nT))) ?_⟩⟩
      rw [upd_same]
      unfold byAge
      rw [show (fun x y : Addr × CK => ckLe x.2 y.2) = PySem.W.dataLe false fun x : Addr × CK => .tuple [.int x.2.since, .int ((Hx.hexNum x.2.fig : Nat) : Int)] from ?_]
      rw [PySem.W.dataLe_ii]
      rfl
end
end K34
set_option Elab.async false
set_option linter.all false
set_option maxRecDepth 100000
set_option maxHeartbeats 2000000
/-! K34T: taking. -/
namespace K34
open PySem PySem.Spec PyProof.Rows L2
/-! ### Short(left) -/
section
variable {P : Program} {w : World} {K : PySem.W.Frag} {mg : Str → Option Value} {base : Heap}
def spUi (K : PySem.W.Frag) : Sp := fun vs H Q _ => ∃ (a : Addr) (v : V) (C : Addr), vs = [.ref a, v] ∧ OexC K C ∧ PySem.W.findIn K (.ref C) "lacks" = some none ∧ H a = some (exo a C none) ∧ ∀ dx, H dx = none → dx ≠ a → Q .non (upd (upd H dx (exd dx [("lacks", v)])) a (exo a C (some dx)))
theorem scUi : FnScope ["self", "lacks"] ["self", "lacks"] (defScope (inClass (top 7) 0)) := ⟨rfl, rfl, rfl, by decide +kernel, rfl, by decide +kernel, by decide +kernel⟩
theorem fn_ui (Z : Wd K mg) : ∃ fd, FnOk P w K mg base C8.CX0 1 (He.ma K (He.ga K "Unborne") "__init__") fd ["self", "lacks"] (spUi K) ∧ Binds K fd ["self", "lacks"] [] := by
  obtain ⟨fd, F⟩ := Z.d_Unborne___init__
  refine ⟨fd, F.ok scUi (fun vs H Q E h => ?_) (fun cdv A outer s H vs Q E hr h => ?_), F.bindsN fun _ _ _ _ _ _ us hl => match us, hl with | [_, _], _ => rfl⟩
  · obtain ⟨a, v, C, rfl, _⟩ := h
    rfl
  · obtain ⟨a, v, C, rfl, T, hn, ha, q⟩ := h
    refine ⟨_, PSs.nox (pss_cons (ps_expr (pe_baseinit (by rfl) Z.g_CaskError Z.sh.b (pa_cons (pv 0) (pa_cons pe_str pa_nil)))) (pss_one (ps_ost (pv 0) (pv 1)))), ?_⟩
    exact ⟨_, rfl, a, C, [.str _], rfl, (by show 1 ≤ 1000; decide), T, ha, _, rfl, _, rfl, a, C, rfl, T, hn, .inl ⟨ha, q⟩⟩
end
/-! ### what is taken -/
def tkT (l w : Rat) : Rat := if l < w then l else w
def tkStep (s : List (Str × Rat) × Rat) (x : Str × Rat) : List (Str × Rat) × Rat := (if tkT s.2 x.2 = 0 then s.1 else s.1 ++ [(x.1, tkT s.2 x.2)], s.2 - tkT s.2 x.2)
def tk (g : Rat) (xs : List (Str × Rat)) : List (Str × Rat) × Rat := xs.foldl tkStep ([], g)
/-- what each cask has of a ware, under its mark -/
def holds (z : Str) (l : List (Addr × CK)) : List (Str × Rat) := l.map fun x => (mk x.2.fig, wof x.2.parts z)
theorem tk_take {g : Rat} {xs : List (Str × Rat)} {i : Nat} {x : Str × Rat} (h : xs[i]? = some x) : tk g (xs.take (i + 1)) = tkStep (tk g (xs.take i)) x := by
  unfold tk
  rw [take_snoc h, List.foldl_append]
  rfl
theorem tkT_rng {l w : Rat} (h1 : 0 ≤ l) (h2 : 0 ≤ w) : 0 ≤ tkT l w ∧ tkT l w ≤ l ∧ tkT l w ≤ w := by
  unfold tkT
  split
  · exact ⟨h1, Rat.le_refl, by grind⟩
  · exact ⟨h2, by grind, Rat.le_refl⟩
theorem wqs_one {ps : List (Str × Rat)} (ok : PartsOk ps) (z : Str) : wqs ps z = [] ∨ ∃ q, wqs ps z = [q] ∧ (z, q) ∈ ps := by
  have h1 : (ps.filter fun p => decide (p.1 = z)).Pairwise fun p q => ltS p.1 q.1 := ok.up.sublist List.filter_sublist
  have h2 : ∀ p ∈ ps.filter (fun p => decide (p.1 = z)), p.1 = z ∧ p ∈ ps := fun p hp => ⟨of_decide_eq_true (List.mem_filter.mp hp).2, (List.mem_filter.mp hp).1⟩
  unfold wqs
  generalize ps.filter (fun p => decide (p.1 = z)) = fl at *
  match fl, h1, h2 with
  | [], _, _ => exact .inl rfl
  | [p], _, h2 =>
    refine .inr ⟨p.2, rfl, ?_⟩
    obtain ⟨e, m⟩ := h2 p List.mem_cons_self
    rw [← e]
    exact m
  | p :: q :: r, h1, h2 =>
    have h3 := (List.pairwise_cons.mp h1).1 q List.mem_cons_self
    rw [(h2 p List.mem_cons_self).1, (h2 q (List.mem_cons_of_mem _ List.mem_cons_self)).1] at h3
    exact absurd h3 (ltS_irr z)
theorem wof_cases {ps : List (Str × Rat)} (ok : PartsOk ps) (z : Str) : wof ps z = 0 ∨ ((z, wof ps z) ∈ ps ∧ 0 < wof ps z) := by
  unfold wof
  rcases wqs_one ok z with e | ⟨q, e, h⟩
  · rw [e]
    exact .inl rfl
  · rw [e]
    have : [q].sum = q := by
      rw [List.sum_cons, List.sum_nil]
      grind
    rw [this]
    exact .inr ⟨h, ok.pos _ h⟩
theorem wof_sz {ps : List (Str × Rat)} (ok : PartsOk ps) (z : Str) : Sz 300 (wof ps z) := by
  rcases wof_cases ok z with e | ⟨h, _⟩
  · rw [e]
    exact Sz.zero.mono (by decide)
  · exact ok.sz _ h
/-- what is left behind some casks -/
theorem tk_left {g : Rat} {n : Nat} {xs : List (Str × Rat)} (g0 : 0 ≤ g) (gz : Sz 20 g) (h : ∀ x ∈ xs, 0 ≤ x.2 ∧ Sz n x.2) : 0 ≤ (tk g xs).2 ∧ Sz (20 + xs.length * (n + 1)) (tk g xs).2 := by
  have key : ∀ (xs : List (Str × Rat)) (s : List (Str × Rat) × Rat) (m : Nat), (∀ x ∈ xs, 0 ≤ x.2 ∧ Sz n x.2) → 0 ≤ s.2 → Sz m s.2 → 0 ≤ (xs.foldl tkStep s).2 ∧ Sz (m + xs.length * (n + 1)) (xs.foldl tkStep s).2 := by
    intro xs
    induction xs with
    | nil =>
      intro s m _ s0 sz
      exact ⟨s0, by simpa using sz⟩
    | cons x xs ih =>
      intro s m h s0 sz
      obtain ⟨x0, xz⟩ := h x List.mem_cons_self
      obtain ⟨t0, tl, tw⟩ := tkT_rng s0 x0
      have z : Sz (m + n + 1) (tkStep s x).2 := by
        show Sz (m + n + 1) (s.2 - tkT s.2 x.2)
        unfold tkT
        split
        · rw [show s.2 - s.2 = 0 by grind]
          exact Sz.zero.mono (by omega)
        · exact (sz.sub xz).2.2
      have s1 : 0 ≤ (tkStep s x).2 := by
        show 0 ≤ s.2 - tkT s.2 x.2
        grind
      obtain ⟨a, b⟩ := ih (tkStep s x) _ (fun y hy => h y (List.mem_cons_of_mem _ hy)) s1 z
      refine ⟨a, ?_⟩
      rw [List.length_cons, Nat.add_mul]
      rw [show m + (xs.length * (n + 1) + 1 * (n + 1)) = m + n + 1 + xs.length * (n + 1) by omega]
      exact b
  exact key xs ([], g) 20 h g0 gz
section
variable {P : Program} {w : World} {K : PySem.W.Frag} {mg : Str → Option Value} {base : Heap}
abbrev CS (K : PySem.W.Frag) : Addr := He.ga K "Short"
def spTk (K : PySem.W.Frag) : Sp := fun vs H Q E => ∃ (a : Addr) (l : List (Addr × CK)) (z : Str) (g : Int), vs = [.ref a, .str z, .int g] ∧ SqT K H a (l.map fun x : Addr × CK => V.ref x.1) ∧ CasksAt K H l ∧ (∀ x ∈ l, CkOk x.2) ∧ l.length ≤ 12 ∧ LamX.Tabs (TT K) H ∧ 0 ≤ g ∧ g < 2 ^ 20 ∧
  ((tk g (holds z (byAge l))).2 = 0 → ∀ p H' (ts : List Addr), EN K H H' → H' p = some (tE p (ts.map V.ref)) → Paired (PartAt K H') ts (tk g (holds z (byAge l))).1 → Q (.ref p) H') ∧
  ((tk g (holds z (byAge l))).2 ≠ 0 → ∀ d pw H', EN K H H' → H' d = some (.xd [("lacks", .ref pw)]) → WAt K H' pw (tk g (holds z (byAge l))).2 → E (.ref (CS K)) (some d) H')
theorem scTk : FnScope ["casks", "ware", "grains", "left", "found", "cask", "there"] ["casks", "ware", "grains"] (defScope (top 35)) := ⟨rfl, rfl, rfl, by decide +kernel, rfl, by decide +kernel, by decide +kernel⟩
theorem mem_byAge {l : List (Addr × CK)} {x : Addr × CK} : x ∈ byAge l ↔ x ∈ l := (List.mergeSort_perm l _).mem_iff
theorem len_byAge {l : List (Addr × CK)} : (byAge l).length = l.length := (List.mergeSort_perm l _).length_eq
theorem EN.put {K : PySem.W.Frag} {H H1 : Hp} {D : Addr} {xs ys : List V} (e : EN K H H1) (h : H D = none) (hD : H1 D = some (.lst xs)) : EN K H (upd H1 D (.lst ys)) := by
  refine ⟨fun b o z n => ?_, fun t q hq => ?_⟩
  · rw [upd_ne (ne_of_none z h)]
    exact e.1 b o z n
  · obtain ⟨ps, h1, h2, h3⟩ := e.2 t q hq
    have k : ∀ b o, H1 b = some o → (∀ zs, o ≠ .lst zs) → upd H1 D (.lst ys) b = some o := fun b o z n => by
      rw [upd_ne (fun y => n xs (by rw [y, hD] at z; exact (Option.some.inj z).symm))]
      exact z
    refine ⟨ps, k _ _ h1 (fun _ z => by cases z), h2, fun pos cv hc => ?_⟩
    obtain ⟨c, e1, e2⟩ := h3 pos cv hc
    exact ⟨c, e1, k _ _ e2 (fun _ z => by unfold LamX.CodeO at z; cases z)⟩
/-- taking, as it may raise -/
structure TkC (P : Program) (w : World) (K : PySem.W.Frag) (mg : Str → Option Value) (base : Heap) : Prop where
  ex : ∃ fd, FnOk P w K mg base (L2.CX P w) 7 (He.ga K "taking") fd ["casks", "ware", "grains"] (spTk K) ∧ Binds K fd ["casks", "ware", "grains"] [] ∧ PySem.W.keepIn K (.ref (He.ga K "taking")) = true
theorem tkc (Z : Wd K mg) (TB : Tb K mg base) : TkC P w K mg base := by
  obtain ⟨fd, F⟩ := Z.d_taking
  refine ⟨fd, F.ok (k := 6) scTk (fun vs H Q E h => ?_) (fun cdv A outer s H vs Q E hr h => ?_), F.bindsN fun _ _ _ _ _ _ us hl => match us, hl with | [_, _, _], _ => rfl, F.kp⟩
  · obtain ⟨a, l, z, g, rfl, _⟩ := h
    rfl
  · obtain ⟨a, l, z, g, rfl, hs, hc, ok, hl, hT, g0, g1, q1, q2⟩ := h
    have mN := met_nought (P := P) (w := w) (base := base) Z
    have mB := met_below (P := P) (w := w) (base := base) Z
    have mW := met_wof (P := P) (w := w) (base := base) Z
    have mL := met_less (P := P) (w := w) (base := base) Z
    have cA := ok_age (P := P) (w := w) (base := base) Z TB
    obtain ⟨fdU, FU, bU⟩ := fn_ui (P := P) (w := w) (base := base) Z
    refine ⟨_, pss_cons (ps_set (i := 3) scTk.nd rfl (.inl rfl) (pe_mkI (mak_w1 (P := P) (w := w) (base := base) Z) hr (by decide) (by rfl) rW1_imp (pa_cons (pv 2) pa_nil)))
      (pss_cons (ps_set (i := 4) scTk.nd rfl (.inl rfl) (pe_lst pa_nil))
      (pss_cons (ps_for (passes_of rfl) rfl (pi_tup (C8.pe_c cA hr (by decide) (by rfl) (pa_cons (pv 0) pa_nil))) (pg_name (i := 5) scTk.nd rfl (Or.inl rfl))
        (pss_cons (ps_set (i := 6) scTk.nd rfl (.inl rfl) (C8.pe_mt mW hr (by decide) (pv 5) (pa_cons (pv 1) pa_nil)))
        (C8.pss_cut (ps_if (pt_val (C8.pe_mt mB hr (by decide) (pv 3) (pa_cons (pv 6) pa_nil))) (pss_one (ps_set (i := 6) scTk.nd rfl (.inl rfl) (pv 3))) pss_nil)
        (pss_one (ps_if (pt_not (pt_val (C8.pe_mt0 mN hr (by decide) (pv 6))))
          (pss_cons (ps_expr (pe_bm PySem.F.plainAttrs_list PySem.F.slot_list_append PySem.F.type_list_append mt_append (pv 4) (pa_cons (pe_tup (pa_cons (pe_fld (pv 5) rfl) (pa_cons (pv 6) pa_nil))) pa_nil)))
            (pss_one (ps_set (i := 3) scTk.nd rfl (.inl rfl) (C8.pe_mt mL hr (by decide) (pv 3) (pa_cons (pv 6) pa_nil))))) pss_nil)))))
      (pss_cons (ps_if (pt_not (pt_val (C8.pe_mt0 mN hr (by decide) (pv 3)))) (pss_one (ps_raise rfl (takes_of rfl rfl rfl rfl) (pmk_oex Z.sh.o Z.sh.i Z.sh.t FU (hr.mono (by decide)) bU .nil C8.pass0 (by rfl) Z.g_Short (pa_cons (pv 3) pa_nil)))) pss_nil)
      (pss_one (ps_ret (pe_callTy cr_tupE (by rfl) Z.f_tuple (by decide +kernel) (pa_cons (pv 4) pa_nil))))))), ?_⟩
    have gz : Sz 20 ((g : Int) : Rat) := by
      rw [← int_val]
      exact Sz.mk (by decide) (by have e : (2 : Nat) ^ 20 = 1048576 := by decide
                                  have e2 : (2 : Int) ^ 20 = 1048576 := by decide
                                  omega) (by decide)
    have g0' : 0 ≤ ((g : Int) : Rat) := Rat.intCast_nonneg.mpr g0
    refine ⟨_, rfl, g, rfl, g0, ?_, fun pl H1 e1 npl wl => ?_⟩
    · have e2 : (2 : Int) ^ 20 = 1048576 := by decide
      exact pow_lt (show g.natAbs < 2 ^ 20 by have e : (2 : Nat) ^ 20 = 1048576 := by decide
                                              omega) (by decide)
    refine ⟨by decide, fun D nD => ?_⟩
    have nDH : H D = none := fresh_of e1 nD
    have e12 : Ext H (upd H1 D (.lst [])) := Ext.put e1 nDH
    refine ⟨_, rfl, a, l, rfl, hs.ext e12, hc.kp (Kp.of e12), ok, hT.ext e12, fun pa H3 en hpa => ?_⟩
    have eH3 : EN K H H3 := (EN.of e12).trans en
    have k3 : Kp H H3 := Kp.ofN eH3.1
    have hD3 : H3 D = some (.lst []) := en.1 _ _ upd_same fun _ z => by cases z
    have wl3 : WAt K H3 pl ((g : Int) : Rat) := (wl.kp (Kp.new nD)).kp (Kp.ofN en.1)
    have hc3 := hc.kp k3
    refine ⟨pa, rfl, ⟨_, SqT.of hpa⟩, ?_⟩
    refine for_it (walk_tup (xs := (byAge l).map fun x => V.ref x.1)) (fun i σ H4 => (∃ pi x t, σ = [some (.ref a), some (.str z), some (.int g), some (.ref pi), some (.ref D), x, t] ∧ WAt K H4 pi (tk g ((holds z (byAge l)).take i)).2) ∧ EN K H H4 ∧ Kp H3 H4 ∧
        ∃ ts : List Addr, H4 D = some (.lst (ts.map V.ref)) ∧ Paired (PartAt K H4) ts (tk g ((holds z (byAge l)).take i)).1)
      ⟨⟨pl, none, none, rfl, wl3⟩, eH3, Kp.rfl', [], hD3, .nil⟩ (fun i σ H4 _ p => SqT.of (p.2.2.1 _ _ hpa (fun _ z => by cases z) (fun _ z => by cases z))) (fun i x σ H4 H5 hi p y => ?_) fun σ H4 p => ?_
    · obtain ⟨⟨pi, x0, t0, rfl, wi⟩, e4, k4, ts, hD, hts⟩ := p
      obtain ⟨rfl, hx⟩ := y
      rw [List.getElem?_map] at hx
      obtain ⟨u, hu, rfl⟩ := Option.map_eq_some_iff.mp hx
      have um : u ∈ l := mem_byAge.mp (List.mem_of_getElem? hu)
      have uo := ok u um
      have cu := (hc3 u um).kp k4
      obtain ⟨dc, tc, hcu, _⟩ := id cu
      have hxs : (holds z (byAge l))[i]? = some (mk u.2.fig, wof u.2.parts z) := by
        unfold holds
        rw [List.getElem?_map, hu]
        rfl
      have stp := tk_take (g := ((g : Int) : Rat)) hxs
      obtain ⟨s0, sz⟩ := tk_left (n := 300) (xs := (holds z (byAge l)).take i) g0' gz (fun y hy => by
        obtain ⟨v, hv, rfl⟩ := List.mem_map.mp (List.mem_of_mem_take hy)
        have := (ok v (mem_byAge.mp hv)).parts
        exact ⟨wof_nn this z, wof_sz this z⟩)
      have li : ((holds z (byAge l)).take i).length ≤ 12 := by
        rw [List.length_take]
        unfold holds
        rw [List.length_map, len_byAge]
        omega
      have sz' : Sz 3632 (tk g ((holds z (byAge l)).take i)).2 := sz.mono (by have := Nat.mul_le_mul_right 301 li; omega)
      have w0 := wof_nn uo.parts z
      have wz := wof_sz uo.parts z
      generalize hst : tk g ((holds z (byAge l)).take i) = st at *
      refine ⟨_, rfl, u.1, dc, _, rfl, hcu, rfl, _, rfl, u.1, u.2, z, rfl, cu, uo.parts, fun pt H6 e6 npt wt => ?_⟩
      have wi6 := wi.kp (Kp.of e6)
      obtain ⟨di, wi6'⟩ := id wi6
      refine ⟨fun σ' H' => H' = H6 ∧ ∃ ph, σ' = [some (.ref a), some (.str z), some (.int g), some (.ref pi), some (.ref D), some (.ref u.1), some (.ref ph)] ∧ WAt K H6 ph (tkT st.2 (wof u.2.parts z)), ?_, ?_⟩
      · refine ⟨_, rfl, pi, di, _, rfl, wi6', rfl, _, rfl, pi, pt, st.2, wof u.2.parts z, 3632, 300, rfl, wi6, wt, sz', wz, by decide, by decide, by decide, _, rfl, ?_⟩
        by_cases c : st.2 < wof u.2.parts z
        · rw [decide_eq_true c]
          refine iteT ⟨_, rfl, rfl, pi, rfl, ?_⟩
          unfold tkT
          rw [if_pos c]
          exact wi6
        · rw [decide_eq_false c]
          refine iteF (nxt ⟨rfl, pt, rfl, ?_⟩)
          unfold tkT
          rw [if_neg c]
          exact wt
      rintro σ' H' ⟨rfl, ph, rfl, wh⟩
      obtain ⟨t1, t2, t3⟩ := tkT_rng s0 w0
      have tz : Sz 3632 (tkT st.2 (wof u.2.parts z)) := by
        unfold tkT
        split
        · exact sz'
        · exact wz.mono (by decide)
      obtain ⟨dh, wh'⟩ := id wh
      have hD6 := e6 _ _ hD
      have hcu6 := e6 _ _ hcu
      refine ⟨_, rfl, ph, dh, _, rfl, wh', rfl, ph, _, rfl, wh, _, rfl, ?_⟩
      have hlen : (ts.map V.ref).length < sizeLine := by
        have l1 := Paired.length hts
        have l2 : ∀ (xs : List (Str × Rat)) (s : List (Str × Rat) × Rat), (xs.foldl tkStep s).1.length ≤ s.1.length + xs.length := by
          intro xs
          induction xs with
          | nil => intro s; exact Nat.le_refl _
          | cons x xs ih =>
            intro s
            have h1 := ih (tkStep s x)
            have h2 : (tkStep s x).1.length ≤ s.1.length + 1 := by
              show (if _ then _ else _ : List (Str × Rat)).length ≤ _
              split
              · omega
              · rw [List.length_append]
                exact Nat.le_refl _
            rw [List.length_cons]
            exact Nat.le_trans h1 (by omega)
        have l3 := l2 ((holds z (byAge l)).take i) ([], ((g : Int) : Rat))
        rw [show ((holds z (byAge l)).take i).foldl tkStep ([], ((g : Int) : Rat)) = st from hst] at l3
        have l4 : ([] : List (Str × Rat)).length = 0 := rfl
        rw [List.length_map, sizeLine_eq]
        simp only [List.length_nil] at l3
        omega
      by_cases t00 : tkT st.2 (wof u.2.parts z) = 0
      · rw [decide_eq_true t00]
        refine iteF (nxt ⟨⟨pi, _, _, rfl, ?_⟩, e4.trans (EN.of e6), k4.trans (Kp.of e6), ts, hD6, ?_⟩)
        · rw [stp]
          show WAt K _ pi (st.2 - tkT st.2 (wof u.2.parts z))
          rw [t00, show st.2 - 0 = st.2 by grind]
          exact wi6
        · rw [stp]
          show Paired _ ts (if tkT st.2 (wof u.2.parts z) = 0 then st.1 else _)
          rw [if_pos t00]
          exact paired_mono (fun _ _ y => y.kp (Kp.of e6)) hts
      · rw [decide_eq_false t00]
        refine iteT ?_
        refine ⟨_, rfl, .inl ⟨rfl, _, SqL.of hD6⟩, _, rfl, u.1, _, dc, _, _, rfl, hcu6, Z.cl_Cask, Z.n_Cask_mark, rfl, _, rfl, (by show 2 ≤ sizeLine; rw [sizeLine_eq]; omega), fun T nT => ?_⟩
        have nTD : D ≠ T := ne_of_none hD6 nT
        have hD8 : upd H' T (.tup [.str (mk u.2.fig), .ref ph]) D = some (.lst (ts.map V.ref)) := (upd_ne nTD).trans hD6
        have k8 : Kp H' (upd (upd H' T (.tup [.str (mk u.2.fig), .ref ph])) D (.lst (ts.map V.ref ++ [.ref T]))) := (Kp.new nT).trans (Kp.put hD8)
        refine ⟨D, _, _, rfl, rfl, hD8, hlen, ?_⟩
        have wi8 := wi6.kp k8
        have wh8 := wh.kp k8
        obtain ⟨di8, wi8'⟩ := id wi8
        have e8 : EN K H (upd (upd H' T (.tup [.str (mk u.2.fig), .ref ph])) D (.lst (ts.map V.ref ++ [.ref T]))) := EN.put ((e4.trans (EN.of e6)).trans (EN.of (Ext.upd nT))) nDH hD8
        refine ⟨_, rfl, pi, di8, _, rfl, wi8', rfl, _, rfl, pi, ph, st.2, _, 3632, 3632, rfl, wi8, wh8, t1, t2, sz', tz, by decide, by decide, by decide, fun pn H9 e9 npn wn => ?_⟩
        refine ⟨⟨pn, _, _, rfl, ?_⟩, e8.trans (EN.of e9), ((k4.trans (Kp.of e6)).trans k8).trans (Kp.of e9), ts ++ [T], ?_, ?_⟩
        · rw [stp]
          exact wn
        · refine e9 _ _ ?_
          rw [upd_same, List.map_append]
          rfl
        · rw [stp]
          show Paired _ _ (if tkT st.2 (wof u.2.parts z) = 0 then st.1 else _)
          rw [if_neg t00]
          refine paired_snoc ⟨ph, e9 _ _ ?_, wh8.kp (Kp.of e9)⟩ (paired_mono (fun _ _ y => ((y.kp (Kp.of e6)).kp k8).kp (Kp.of e9)) hts)
          rw [upd_ne (Ne.symm nTD), upd_same]
    · obtain ⟨⟨pi, x0, t0, rfl, wi⟩, e4, k4, ts, hD, hts⟩ := p
      have el : (holds z (byAge l)).take ((byAge l).map fun x => V.ref x.1).length = holds z (byAge l) := by
        rw [List.take_of_length_le]
        unfold holds
        rw [List.length_map, List.length_map]
        exact Nat.le_refl _
      rw [el] at wi hts
      obtain ⟨di, wi'⟩ := id wi
      refine ⟨_, rfl, pi, di, _, rfl, wi', rfl, pi, _, rfl, wi, _, rfl, ?_⟩
      by_cases l0 : (tk g (holds z (byAge l))).2 = 0
      · rw [decide_eq_true l0]
        refine iteF (nxt ⟨_, rfl, D, _, rfl, SqL.of hD, fun T nT => q1 l0 T _ ts (e4.trans (EN.of (Ext.upd nT))) upd_same (paired_mono (fun _ _ y => y.kp (Kp.new nT)) hts)⟩)
      · rw [decide_eq_false l0]
        refine iteT ⟨_, rfl, (by show 1 ≤ 1000; decide), fun x nx => ⟨x, .ref pi, CS K, rfl, Z.sh.o, Z.sh.l, upd_same, fun dx ndx dne => ?_⟩⟩
        have ndx4 : H4 dx = none := by
          rw [upd_ne dne] at ndx
          exact ndx
        refine ⟨rfl, dx, [("lacks", .ref pi)], upd_same, ?_, ndx4, ?_⟩
        · rw [upd_ne dne, upd_same]
        · have ef : Ext H4 (upd (del (upd (upd (upd H4 x (exo x (CS K) none)) dx (exd dx [("lacks", .ref pi)])) x (exo x (CS K) (some dx))) x) dx (.xd [("lacks", .ref pi)])) := fun b o z => by
            have h1 := ne_of_none z nx
            have h2 := ne_of_none z ndx4
            rw [upd_ne h2, del_ne h1, upd_ne h1, upd_ne h2, upd_ne h1]
            exact z
          exact q2 l0 dx pi _ (e4.trans (EN.of ef)) upd_same (wi.kp (Kp.of ef))
end
end K34
set_option Elab.async false
set_option linter.all false
set_option maxRecDepth 100000
set_option maxHeartbeats 2000000
/-! K34Slice: a tuple [::-1]; a text times 0 or 1. -/
namespace K34
open PySem PySem.Spec PyProof.Rows L2 HT
theorem fm_some {α β : Type} (f : α → Option β) (g : α → β) : ∀ l : List α, (∀ x ∈ l, f x = some (g x)) → l.filterMap f = l.map g
  | [], _ => rfl
  | x :: l, h => by rw [List.filterMap_cons, h x List.mem_cons_self, fm_some f g l fun y hy => h y (List.mem_cons_of_mem _ hy)]; rfl
theorem back_pick (xs : List Value) : ((List.range xs.length).filterMap fun (k : Nat) => xs.toArray[(((xs.length : Int) - 1) + (k : Int) * (-1)).toNat]?).toArray = xs.reverse.toArray := by
  congr 1
  rw [fm_some _ (fun k => xs.getD (xs.length - 1 - k) .none) _ fun k hk => ?_]
  · apply List.ext_getElem?
    intro i
    by_cases h : i < xs.length
    · rw [List.getElem?_reverse h]
      have h2 : xs.length - 1 - i < xs.length := by omega
      simp [h, h2]
    · rw [List.getElem?_eq_none (by simp; omega), List.getElem?_eq_none (by simp; omega)]
  · have hk' : k < xs.length := List.mem_range.mp hk
    have e1 : (((xs.length : Int) - 1) + (k : Int) * (-1)).toNat = xs.length - 1 - k := by omega
    rw [e1]
    have h2 : xs.length - 1 - k < xs.length := by omega
    simp [h2]
section
variable {prog : Program} {w : World} {A : Around} {E : Value → Shared → Prop} {s : Shared}
theorem tuple_back {t sl : Addr} {items : List Value} {vl vu vs : Value} {Q : Value → Shared → Prop} (ht : IsTup s.heap t items.toArray) (hs : s.heap.IsSliceOf sl vl vu vs) (pl : IsPart vl none) (pu : IsPart vu none) (ps : IsPart vs (some (-1)))
    (h : Q (.ref s.heap.objs.size) { s with heap := s.heap.push { cls := .type "tuple", data := .seq items.reverse.toArray } }) (hsz : items.length ≤ sizeLine) : wpAny (model prog w) A (getItem (.ref t) (.ref sl)) Q E s := by
  obtain ⟨os, hos, hcs, hds⟩ := id hs
  have hTs : s.TypeIs (.ref sl) "slice" := ⟨os, hos, hcs⟩
  unfold getItem
  try with_reducible refine wpAny_holding ?_
  first | refine wpAny_bind (wpAny_pure ?_) | skip
  refine wpAny_bind (wpAny_sequenceKey ht.typeIs (by decide) (wpAny_bind ?_))
  refine wpAny_callSpecial?_slot (name := Str.ofString "__getitem__") ht.typeIs PyProof.Rows.slot_tuple_getitem (wpAny_call_entry PyProof.Rows.slot_tuple_getitem ht.typeIs entry_tuple_getitem ?_ (args_tuple_getitem _ _))
  show wpAny _ _ (Builtin.Tuple.tupleItemsOf (.ref t) >>= _) _ _ s
  refine wpAny_bind (tupleItemsOf_ ht (wpAny_bind (wpAny_typeOf hTs ?_)))
  rw [if_pos (by decide)]
  refine wpAny_bind ?_
  unfold Builtin.Slice.sliceApplied Builtin.Slice.sliceFields
  refine wpAny_bind (wpAny_bind (wpAny_field hos hds (x := vl) rfl (wpAny_bind (wpAny_field hos hds (x := vu) rfl (wpAny_bind (wpAny_field hos hds (x := vs) rfl (wpAny_pure ?_)))))))
  refine wpAny_bind (slicePart_ ps ?_)
  show wpAny _ _ (if ((-1 : Int) == 0) = true then _ else _) _ _ s
  rw [if_neg (by decide)]
  refine wpAny_bind (slicePart_ pl (wpAny_bind (slicePart_ pu (wpAny_bind (wpAny_pure ?_)))))
  have e1 : Builtin.Slice.sliceAdjust none none (-1) ((items.toArray.size : Nat) : Int) = ((items.length : Int) - 1, -1) := by
    simp [Builtin.Slice.sliceAdjust]
  have e2 : Builtin.Slice.slicePlaces ((items.length : Int) - 1) (-1) (-1) = items.length := by
    unfold Builtin.Slice.slicePlaces
    simp
    try omega
  show wpAny _ _ (match Builtin.Slice.sliceAdjust none none (-1) ((items.toArray.size : Nat) : Int) with | (lo, hi) => pure (lo, (-1 : Int), Builtin.Slice.slicePlaces lo hi (-1))) _ _ s
  rw [e1]
  show wpAny _ _ (pure (((items.length : Int) - 1), (-1 : Int), Builtin.Slice.slicePlaces ((items.length : Int) - 1) (-1) (-1))) _ _ s
  rw [e2]
  refine wpAny_pure ?_
  dsimp only
  rw [if_neg (by simp), back_pick]
  have hsz' : sizeOk (.seq items.reverse.toArray) := by
    show items.reverse.toArray.size ≤ sizeLine
    rw [List.size_toArray, List.length_reverse]
    exact hsz
  first
    | exact wpAny_bind (m := Builtin.Tuple.tupleExact _) (wpAny_newObj_type (wpAny_pure ⟨_, rfl, wpAny_pure h⟩) hsz')
    | exact wpAny_bind (m := Builtin.Tuple.tupleExact _) (wpAny_newObj_type (wpAny_bind (wpAny_pure (wpAny_pure ⟨_, rfl, wpAny_pure h⟩))) hsz')
end
def tRevT (K : PySem.W.Frag) (te : TE) : TE := fun σ H Q => te σ H fun x H1 => ∃ a xs, x = .ref a ∧ SqT K H1 a xs ∧ ∀ p, H1 p = none → Q (.ref p) (upd H1 p (.tup xs.reverse))
section
variable {X : Cx}
theorem pe_revT {e : Expr} {te : TE} {k : Nat} {p1 p2 p3 pos : Pos} (he : PE X e te) : PE X (.Subscript e (.Slice none none (some (.UnaryOp .USub (.Constant (.int 1) k p1) p2)) p3) pos) (tRevT X.K te) := by
  refine ⟨fun pins s σ H Q I h => Subscript_ (thn (he.run pins s σ H _ I h) fun v s1 ⟨x, H1, I1, r1, a, xs, ex, hx, q⟩ => ?_)⟩
  subst ex
  obtain rfl : v = Value.ref a := r1
  have hst : PO X (some (.UnaryOp .USub (.Constant (.int 1) k p1) p2)) (tPart (tUn (rU fun i => .int (-i)) (tC (.int 1)))) := po_some (pe_un un_neg pe_int)
  refine wpAny_Slice (thn (po_none.run pins s1 σ H1 (fun o H2 => o = none ∧ H2 = H1) I1 ⟨rfl, rfl⟩) fun vl s2 ⟨l, H2, I2, pl, el, e2⟩ => thn (po_none.run pins s2 σ H2 (fun o H3 => o = none ∧ H3 = H2) I2 ⟨rfl, rfl⟩) fun vu s3 ⟨u, H3, I3, pu, eu, e3⟩ => thn (hst.run pins s3 σ H3 (fun o H4 => o = some (-1) ∧ H4 = H3) I3 ⟨1, rfl, -1, rfl, rfl, rfl⟩) fun vs s4 ⟨o, H4, I4, ps, eo, e4⟩ => ?_)
  subst el e2 eu e3 eo e4
  have I5 : Inv X pins σ H4 { s4 with heap := s4.heap.push { cls := .type "slice", data := .fields #[vl, vu, vs] } } := I4.kept (t' := s4.toks) fun b ob q => Heap.get?_push_of_some _ q
  obtain ⟨its, r, ht, hz⟩ := I5.tuple hx
  have hl : its.length ≤ sizeLine := by rw [← r.length]; exact hz
  show wpAny (model X.prog X.w) X.A (subscriptTail e (.Slice none none (some (.UnaryOp .USub (.Constant (.int 1) k p1) p2)) p3) (.ref a) (.ref s4.heap.objs.size)) (EP X pins σ Q) X.xe _
  refine tail_any (ops := [.ref a, .ref s4.heap.objs.size]) ht.typeIs PyProof.Rows.slot_tuple_getitem.lookup (tuple_back ht (Heap.IsSliceOf.new _ vl vu vs) pl pu ps ?_ hl) (by with_unfolding_all rfl)
  refine ⟨.ref _, _, I5.laid (t' := s4.toks) (o := .tup xs.reverse) (fun b ob q => Heap.get?_push_of_some _ q) (Nat.le_refl _) ?_, rfl, q _ (I5.hok.fresh (Nat.le_refl _))⟩
  exact ⟨by rw [List.length_reverse]; exact hz, _, r.reverse, IsTup.new _ _⟩
/-- text * 0, text * 1 -/
theorem op_mulStr : OpR X (binaryOp .Mult) (fun x y H Q => ∃ (z : Str) (i : Int), x = .str z ∧ y = .int i ∧ ((i = 0 ∧ Q (.str Str.empty) H) ∨ (i = 1 ∧ Q (.str z) H))) := by
  intro pins s σ H x y v u Q I rx ry ⟨z, i, ex, ey, q⟩
  subst ex ey
  obtain ⟨t, rfl⟩ := rx
  obtain ⟨t', rfl⟩ := ry
  rcases q with ⟨rfl, q⟩ | ⟨rfl, q⟩
  · exact PySem.P.mul_str_none (by decide) (by decide) ⟨.str Str.empty, H, I.tok _, ⟨_, rfl⟩, q⟩
  · refine PySem.P.mul_str (by decide) (fun _ h => by simp at h) (fun _ h => by simp at h) ?_
    rw [if_neg (by decide), if_pos (by simp)]
    exact ⟨.str z, H, I, ⟨_, rfl⟩, q⟩
end
end K34
set_option Elab.async false
set_option linter.all false
set_option maxRecDepth 100000
set_option maxHeartbeats 4000000
/-! K34Set: len(set(a list of texts, all unlike)). -/
namespace K34
open PySem PySem.Spec PyProof.Rows L2
theorem take_any {xs : List Str} {i : Nat} (nd : xs.Nodup) (h : i < xs.length) : ((xs.take i).any (· == xs.getD i Str.empty)) = false := by
  rw [List.any_eq_false]
  intro y hy e
  have e' : y = xs.getD i Str.empty := by simpa using e
  have e2 : xs.getD i Str.empty = xs[i] := by simp [h]
  obtain ⟨j, hj, ej⟩ := List.mem_iff_getElem.mp hy
  rw [List.length_take] at hj
  rw [List.getElem_take] at ej
  have hji : j < i := by omega
  have := (List.getElem_inj (h₀ := by omega) (h₁ := h) nd).mp (ej.trans (e'.trans e2))
  omega
theorem take_succ_any {xs : List Str} {i : Nat} (h : i < xs.length) (k : Str) : ((xs.take i).any (· == k) || decide (k = xs.getD i Str.empty)) = (xs.take (i + 1)).any (· == k) := by
  have e2 : xs.getD i Str.empty = xs[i] := by simp [h]
  rw [List.take_add_one, List.getElem?_eq_getElem h, List.any_append, e2]
  congr 1
  by_cases e : k = xs[i]
  · subst e
    simp
  · have hb : (xs[i] == k) = false := by simpa [beq_iff_eq] using fun h' : xs[i] = k => e h'.symm
    simp [hb, e]
section
variable {prog : Program} {w : World} {A : Around} {R : Result → Shared → Prop} {I : Addr} {fp wr : List Addr} {G : Array GenState → Array GenState → Prop} {n : Nat} {P : Nat → Value → Prop} {St : Nat → Shared → Prop}
theorem set_loop (W : WalksS prog w A.in1 I fp wr G n P St) (S : Addr) (hSf : S ∉ fp) (xs : List Str) (hsz : xs.length = n) (nd : xs.Nodup) (hb : n + 1 < scanBound) (hval : ∀ i v, P i v → ∃ t, v = .str (xs.getD i Str.empty) t) :
    ∀ (k i : Nat) (s : Shared), n - i = k → i ≤ n → St i s → s.heap.SetOf (PySem.strKind prog w) S (fun k' => (xs.take i).any (· == k')) i →
      (∀ s', Moved (S :: wr) G s s' → s'.heap.SetOf (PySem.strKind prog w) S (fun k' => (xs.take n).any (· == k')) n → R (.ok (.ret .none)) s') → codeAny (model prog w) A (.builtin "set.update.loop" ⟨[.ref S, .ref I], []⟩) R s
  | 0, i, s, hk, hi, hst, hS, hR => by
    obtain rfl : i = n := by omega
    refine codeAny_builtin PyProof.Rows.F.entry_set_update_loop ?_
    rw [Around.under_plainId PyProof.Rows.F.plain_set_update_loop _]
    refine wpAny_bind (m := pyNext (.ref I)) (W.done s _ _ hst fun s' hm => ?_)
    obtain ⟨o, es, ep, t, ho, r⟩ := hS
    exact wpAny_pure (hR s' (hm.mono fun b hb => List.mem_cons_of_mem _ hb) ⟨o, es, ep, t, hm.heap S _ (fun h => hSf (W.sub _ h)) ho, r⟩)
  | k + 1, i, s, hk, hi, hst, hS, hR => by
    have hlt : i < n := by omega
    have hSw : S ∉ wr := fun h => hSf (W.sub _ h)
    refine codeAny_builtin PyProof.Rows.F.entry_set_update_loop ?_
    rw [Around.under_plainId PyProof.Rows.F.plain_set_update_loop _]
    refine wpAny_bind (m := pyNext (.ref I)) (W.item i s _ _ hlt hst fun v s' hP hst' hm => ?_)
    obtain ⟨t, rfl⟩ := hval i v hP
    have hS' : s'.heap.SetOf (PySem.strKind prog w) S (fun k' => (xs.take i).any (· == k')) i := by
      obtain ⟨o, es, ep, tb, ho, r⟩ := hS
      exact ⟨o, es, ep, tb, hm.heap S _ hSw ho, r⟩
    refine wpAny_bind (m := holding [Value.str (xs.getD i Str.empty) t] (setAdd S (.str (xs.getD i Str.empty) t))) (wpAny_holding ?_)
    unfold setAdd
    refine wpAny_holding (wpAny_bind ((PySem.strKind prog w).pyHash (k := xs.getD i Str.empty) (strKind_is _ _ _ _) ?_))
    refine wpAny_setAddHashed_of (knd := PySem.strKind prog w) (s := { s' with toks := s'.toks + 1 }) (strKind_is _ _ _ _) rfl hS' (by omega) fun h' hsb hS2 => ?_
    have hSi : h'.SetOf (PySem.strKind prog w) S (fun k' => (xs.take (i + 1)).any (· == k')) (i + 1) := by
      refine PyProof.Rows.SetOf_congr hS2 (fun k' => take_succ_any (by omega) k') ?_
      rw [take_any nd (by omega)]
      rfl
    refine wpAny_pure ⟨plainId_quiet PyProof.Rows.F.plain_set_update_loop _, set_loop W S hSf xs hsz nd hb hval k (i + 1) _ (by omega) hlt (W.frame _ s' _ _ hst' (Nat.le_succ _) fun b hb o e => ?_) hSi fun s'' hm'' hS'' => ?_⟩
    · rw [hsb.2 b (fun h : b = S => hSf (by rw [← h]; exact hb))]
      exact e
    · refine hR s'' (Moved.trans W.gtrans ((hm.mono fun b hb => List.mem_cons_of_mem _ hb).then_heap (Nat.le_succ _) fun b o hb e => ?_) hm'') hS''
      rw [hsb.2 b (fun h : b = S => hb (by rw [h]; exact List.mem_cons_self))]
      exact e
end
section
variable {prog : Program} {w : World} {A : Around} {E : Value → Shared → Prop} {s : Shared}
theorem call_set_txt {l : Addr} {items : Array Value} {xs : List Str} {Q : Value → Shared → Prop} (hh : A.handled = none) (hl : s.heap.IsList l items) (hi : PyProof.Rows.StrsAre items.toList xs) (nd : xs.Nodup) (hb : items.size + 1 < scanBound)
    (h : ∀ (h' : Heap) (tk : Nat), h'.SetOf (PySem.strKind prog w) s.heap.objs.size (fun k' => (xs.take items.size).any (· == k')) items.size → (∀ b o, b < s.heap.objs.size → s.heap.get? b = some o → h'.get? b = some o) → Q (.ref s.heap.objs.size) { s with heap := h', toks := tk }) :
    wpAny (model prog w) A (call (.type "set") [.ref l]) Q E s := by
  obtain ⟨c, tl, hmro⟩ := PySem.F.called_set.mro
  have hmade := PySem.F.called_set.made
  have hsub := PySem.F.called_set.sub
  refine wpAny_call (codeAny_of_tree (show wpAny _ _ (callAny (.type "set") _) _ _ _ from ?_))
  refine wpAny_pure ⟨Code.quiet_builtin _ (by decide +kernel), codeAny_builtin PySem.F.entry_type_call ?_⟩
  rw [Around.under_plain (weight_type_call_type "set" [.ref l] []) rfl]
  have h1 := PySem.F.called_set.notType
  have h2 := PySem.F.called_set.canCreate
  have hct := PySem.F.typeCall_set_1 (.ref l)
  repeat (any_goals (first | assumption | wp_step))
  refine codeAny_mono (code_set_new_1 (.ref l) (E := E) (Q₁ := fun obj s₁ => ∃ led : Bool, obj = .ref s.heap.objs.size ∧ s₁ = { s with heap := s.heap.push { cls := .type "set", dict := none, data := .set #[] 0 (.fresh 0 0 led) } }) fun led => ⟨led, rfl, rfl⟩) fun r s₁ hr => ?_
  match r, hr with
  | .error e, hr => exact hr
  | .ok (.ret obj), hr =>
    obtain ⟨led, rfl, rfl⟩ := hr
    have hS : (s.heap.push { cls := .type "set", dict := none, data := .set #[] 0 (.fresh 0 0 led) }).get? s.heap.objs.size = some { cls := .type "set", dict := none, data := .set #[] 0 (.fresh 0 0 led) } := Heap.get?_push_size _ rfl
    have hT : Shared.TypeIs { s with heap := s.heap.push { cls := .type "set", dict := none, data := .set #[] 0 (.fresh 0 0 led) } } (.ref s.heap.objs.size) "set" := ⟨_, hS, rfl⟩
    have hli := PySem.F.called_set.init.lookup
    have hbi := PySem.F.called_set.init.bind (.ref s.heap.objs.size)
    repeat (any_goals (first | assumption | wp_step))
    refine codeAny_mono (codeAny_call_builtin (R := wants (fun r s₂ => r = .none ∧ ∃ h' tk, s₂ = { s with heap := h', toks := tk } ∧ h'.SetOf (PySem.strKind prog w) s.heap.objs.size (fun k' => (xs.take items.size).any (· == k')) items.size ∧
        (∀ b o, b < s.heap.objs.size → s.heap.get? b = some o → h'.get? b = some o)) E) PySem.F.called_set.init.plain PySem.F.entry_set_init (check_set_init_1 hT ?_)) fun r₂ s₂ hr₂ => ?_
    · obtain ⟨⟨ocls, odict, odata, oslots⟩, hol, hcl, nl, hdl⟩ := hl
      dsimp only at hcl hdl
      subst hcl
      subst hdl
      have hol' : (s.heap.push { cls := .type "set", dict := none, data := .set #[] 0 (.fresh 0 0 led) }).get? l = some { cls := .type "list", dict := odict, data := .seq items nl, slots := oslots } := Heap.get?_push_of_some _ hol
      have hsls := PySem.F.sub_list_set
      have hslf := PySem.F.sub_list_frozenset
      have hne : (Value.type "list" == Value.type "dict") = false := by decide
      have hl1 : (s.heap.push { cls := .type "set", dict := none, data := .set #[] 0 (.fresh 0 0 led) }).IsList l items := ⟨_, hol', rfl, nl, rfl⟩
      unfold Builtin.«set.__init__» noKeywords Builtin.Frozenset.updateFrom
      generalize hPI : pyIter = PI
      wp_walk
      subst hPI
      refine wpAny_pyIter_list hl1 (wpAny_bind (wpAny_runValue ?_))
      have hlS : l < s.heap.objs.size := Heap.lt_size hol
      have hh3 : A.in1.in1.in1.handled = none := hh
      have z1 : (s.heap.push { cls := .type "set", dict := none, data := .set #[] 0 (.fresh 0 0 led) }).objs.size = s.heap.objs.size + 1 := Heap.size_push ..
      have hneI : l ≠ (s.heap.push { cls := .type "set", dict := none, data := .set #[] 0 (.fresh 0 0 led) }).objs.size := by
        rw [z1]
        exact Nat.ne_of_lt (Nat.lt_succ_of_lt hlS)
      have hSf : s.heap.objs.size ∉ [(s.heap.push { cls := .type "set", dict := none, data := .set #[] 0 (.fresh 0 0 led) }).objs.size, l] := by
        rw [z1]
        intro z
        rcases List.mem_cons.mp z with z | z
        · exact absurd z (Nat.ne_of_lt (Nat.lt_succ_self _))
        · exact absurd (List.mem_singleton.mp z) (Nat.ne_of_gt hlS)
      have hsz : xs.length = items.size := by rw [← StrsAre.len_eq hi, Array.length_toList]
      refine set_loop ((Walks.list hh3 _ l hneI items).toS) s.heap.objs.size hSf xs hsz nd hb (fun i v hv => SS.strs_at hi i v (by rw [Array.getElem?_toList]; exact hv)) (items.size - 0) 0 _ (by omega) (Nat.zero_le _) ⟨⟨_, Heap.get?_push_size _ rfl, rfl, rfl⟩, (hl1.push _)⟩ ?hS0 ?hR
      case hS0 => exact PyProof.Rows.SetOf_congr ((PyProof.Rows.setObjOf_fresh (knd := PySem.strKind prog w) led).setOf (Heap.get?_push_of_some _ hS) (by unfold scanBound; omega)) (fun _ => rfl) rfl
      case hR =>
        intro s' hm hS'
        obtain ⟨h', g', d', tk', os'⟩ := s'
        obtain rfl : g' = s.gens := hm.gens
        obtain rfl : d' = s.drawn := hm.drawn
        obtain rfl : os' = s.os := hm.os
        show wpAny _ _ _ _ _ _
        refine wpAny_pure (show wpAny _ _ (ret Value.none) _ _ _ from wpAny_pure ⟨rfl, h', tk', rfl, hS', fun b o hb e => ?_⟩)
        refine hm.heap b o (fun z => ?_) (Heap.get?_push_of_some _ (Heap.get?_push_of_some _ e))
        rcases List.mem_cons.mp z with z | z
        · exact absurd z (Nat.ne_of_lt hb)
        · rw [List.mem_singleton.mp z, z1] at hb
          omega
    · match r₂, hr₂ with
      | .error e, hr₂ => exact hr₂
      | .ok (.ret r), hr₂ =>
        obtain ⟨rfl, h', tk, rfl, hS', hk'⟩ := hr₂
        repeat (any_goals (first | assumption | wp_step))
        exact h _ _ hS' hk'
      | .ok .next, hr₂ => exact hr₂.elim
      | .ok .brk, hr₂ => exact hr₂.elim
      | .ok .cont, hr₂ => exact hr₂.elim
  | .ok .next, hr => exact hr.elim
  | .ok .brk, hr => exact hr.elim
  | .ok .cont, hr => exact hr.elim
end
def tLenSetT (K : PySem.W.Frag) (ta : TE) : TE := fun σ H Q => ta σ H fun x H1 => ∃ (l : Addr) (xs : List Str), x = .ref l ∧ SqL K H1 l (xs.map V.str) ∧ xs.Nodup ∧ xs.length ≤ 1000 ∧ Q (.int (xs.length : Nat)) H1
theorem pe_lenSetT {X : Cx} {a : Expr} {ta : TE} {p p2 q pos : Pos} (hg : Gl X "len") (hm : X.mg "len" = none) (hg2 : Gl X "set") (hm2 : X.mg "set" = none) (ha : PE X a ta) (hc : X.calm = true := by rfl)
    (na : starEach [a] X.env = (false, eval a X.env) :: starEach [] X.env := by rfl) : PE X (.Call (.Name "len" p) [.Call (.Name "set" p2) [a] [] q] [] pos) (tLenSetT X.K ta) := by
  refine ⟨fun pins s σ H Q I h => Call_ (ld_blt I hg hm boot_len (PyProof.Rows.callWith_builtin1 (PyProof.Rows.args_cons ?_ rfl) rfl rfl))⟩
  refine Call_ (ld_blt I hg2 hm2 boot_set (PyProof.Rows.callWith_type1 (PyProof.Rows.args_cons (thn (ha.run pins s σ H _ I h) fun v s1 ⟨x, H1, I1, r1, l, xs, ex, hq, hnd, hl, q1⟩ => PyProof.Rows.args_nil ?_) na) na rfl))
  subst ex
  obtain rfl : v = Value.ref l := r1
  obtain ⟨its, r, pl, hz⟩ := I1.list hq
  have hlen : its.toArray.size = xs.length := by rw [List.size_toArray, ← r.length, List.length_map]
  refine call_set_txt (I1.ok.hd hc) pl.isList (by simpa using strsAre_of r) hnd (by rw [hlen]; unfold scanBound; omega) fun h' tk hS hk => PyProof.Rows.args_nil ?_
  rw [hlen] at hS
  obtain ⟨o, es, ep, t, ho, hex, hd, _, _, _, hf, hn⟩ := hS
  have I2 : Inv X pins σ H1 { s1 with heap := h', toks := tk } := I1.kept fun b o e => hk b o (Heap.lt_size e) e
  exact call_len_set ho hex hd hf (by rw [hn] <;> omega) ⟨.int xs.length, H1, I2.tok _, ⟨_, by rw [hn]⟩, q1⟩
end K34
set_option Elab.async false
set_option linter.all false
set_option maxRecDepth 100000
set_option maxHeartbeats 2000000
/-! K34H: is_taken, taking_holds. -/
namespace K34
open PySem PySem.Spec PyProof.Rows L2
section
variable {P : Program} {w : World} {K : PySem.W.Frag} {mg : Str → Option Value} {base : Heap}
/-- two Weights, as values of Python -/
abbrev DW (K : PySem.W.Frag) : Eqv := DIns (CW K) (SameW K)
theorem dw_of {H : Hp} {a b : Addr} {q : Rat} (h1 : WAt K H a q) (h2 : WAt K H b q) : DW K (.ref a) (.ref b) H := by
  obtain ⟨dx, g1⟩ := id h1
  obtain ⟨dy, g2⟩ := id h2
  exact ⟨a, b, dx, dy, _, _, rfl, rfl, g1, g2, q, h1, h2⟩
theorem rcW {X : Cx} (c : EqC X.prog X.w X.K X.mg X.base) (m : Meth X.K (CW X.K) "__eq__" (He.ma X.K (CW X.K) "__eq__")) : RcG X 1 (DW X.K) := by
  obtain ⟨fd, F, b⟩ := c.ex
  exact rcG_ins F m.at_ m.fn b (C8.pass0 (E := C8.E0))
theorem op_eqW {X : Cx} (c : EqC X.prog X.w X.K X.mg X.base) (m : Meth X.K (CW X.K) "__eq__" (He.ma X.K (CW X.K) "__eq__")) {k : Nat} (hr : Room k X.A) (hk : 1 ≤ k) : OpR X (compareOp .Eq) (rEqG (DW X.K)) := op_eqG (rcW c m) (hr.mono hk)
theorem op_neW {X : Cx} (c : EqC X.prog X.w X.K X.mg X.base) (m : Meth X.K (CW X.K) "__eq__" (He.ma X.K (CW X.K) "__eq__")) (wc : WeC X.K (CW X.K)) {k : Nat} (hr : Room k X.A) (hk : 2 ≤ k) : OpR X (compareOp .NotEq) (rNeOwn (CW X.K) (SameW X.K)) := by
  obtain ⟨fd, F, b⟩ := c.ex
  exact op_ne_own F wc.n wc.o m.at_ m.fn b (C8.pass0 (E := C8.E0)) (hr.mono hk)
/-! ### is_taken -/
def spIt (K : PySem.W.Frag) : Sp := fun vs H Q _ => ∃ (a u : Addr) (l : List (Addr × CK)) (z m : Str) (t : Rat), vs = [.ref a, .str z, .ref u] ∧ SqT K H a (l.map fun x : Addr × CK => V.ref x.1) ∧ CasksAt K H l ∧ (∀ x ∈ l, CkOk x.2) ∧ l.length ≤ 12 ∧
  PartAt K H u (m, t) ∧ 0 < t ∧ Sz 3700 t ∧ (∃ x ∈ l, mk x.2.fig = m) ∧ (∀ x ∈ l, mk x.2.fig = m → t ≤ wof x.2.parts z) ∧ ∀ H', Ext H H' → Q (.bl true) H'
theorem scIt : FnScope ["casks", "ware", "thing", "mark", "weight", "there", "cask"] ["casks", "ware", "thing"] (defScope (top 36)) := ⟨rfl, rfl, rfl, by decide +kernel, rfl, by decide +kernel, by decide +kernel⟩
/-- the casks of a mark -/
def ofMark (l : List (Addr × CK)) (m z : Str) : List Rat := (l.filter fun x => decide (mk x.2.fig = m)).map fun x => wof x.2.parts z
theorem ofMark_take {l : List (Addr × CK)} {m z : Str} {i : Nat} {x : Addr × CK} (h : l[i]? = some x) : ofMark (l.take (i + 1)) m z = if mk x.2.fig = m then ofMark (l.take i) m z ++ [wof x.2.parts z] else ofMark (l.take i) m z := by
  unfold ofMark
  rw [take_snoc h, List.filter_append, List.map_append]
  by_cases e : mk x.2.fig = m
  · rw [if_pos e]
    simp [e]
  · rw [if_neg e]
    simp [e]
theorem ok_it (Z : Wd K mg) : C8.Cal P w K mg base 7 "is_taken" (spIt K) [] := by
  refine cal (st := top 36) Z.d_is_taken Z.g_is_taken scIt (fun vs H Q E h => ?_) (fun _ _ _ _ _ _ us hl => match us, hl with | [_, _, _], _ => rfl) fun cdv A outer s H vs Q E hr h => ?_
  · obtain ⟨a, u, l, z, m, t, rfl, _⟩ := h
    rfl
  · obtain ⟨a, u, l, z, m, t, rfl, hs, hc, ok, hl, ⟨v, hu, wv⟩, t0, tz, ⟨y, hy, em⟩, tle, q⟩ := h
    obtain ⟨dv, hv⟩ := id wv
    have mN := met_nought (P := P) (w := w) (base := base) Z
    have mB := met_below (P := P) (w := w) (base := base) Z
    have mW := met_wof (P := P) (w := w) (base := base) Z
    refine ⟨_, PSs.nox (pss_cons (ps_if (PW.pt (pw_or (pt_not (pt_val (pe_callB call_isi (by rfl) Z.f_isinstance (by decide +kernel) (pa_cons (pv 2) (pa_cons (pe_bltn (by rfl) Z.f_tuple (by decide +kernel) (v := .ty "tuple") rfl) pa_nil)))))
        (pw_or1 (pt_cmpR op_ne (pe_callB call_len_seq (by rfl) Z.f_len PySem.boot_len (pa_cons (pv 2) pa_nil)) pe_int (nomark _))))) (pss_one (ps_ret pe_bl)) pss_nil)
      (pss_cons (ps_asg (pv 2) (pg_tup rfl (pgs_cons (pg_name (i := 3) scIt.nd rfl (Or.inr rfl)) (pgs_cons (pg_name (i := 4) scIt.nd rfl (Or.inl rfl)) pgs_nil))))
      (pss_cons (ps_if (PW.pt (pw_or (pt_not (pt_val (pe_callB call_isi (by rfl) Z.f_isinstance (by decide +kernel) (pa_cons (pv 3) (pa_cons (pe_bltn (by rfl) Z.f_str (by decide +kernel) (v := .ty "str") rfl) pa_nil)))))
        (pw_or (pt_not (pt_val (pe_callB (C8.call_isC Z.we.i) (by rfl) Z.f_isinstance (by decide +kernel) (pa_cons (pv 4) (pa_cons (C8.pe_gc (by rfl) ⟨_, Z.g_Weight, rfl⟩ (v := .ref (CW K))) pa_nil)))))
        (pw_or1 (pt_val (C8.pe_mt0 mN hr (by decide) (pv 4))))))) (pss_one (ps_ret pe_bl)) pss_nil)
      (pss_cons (ps_setLc (i := 5) (own := [("cask", 6)]) (g := gName 6) (tt := tTest (tOp rEq (tFld K (tVar 6) "mark") (tVar 3))) rfl scIt.nd rfl rfl (sw_true rfl rfl rfl (by decide +kernel)) (pi_tup (pv 0)) (blkOk_by (own := [("cask", 6)]) (N := ["casks", "ware", "thing", "mark", "weight", "there", "cask"]) (sc := defScope (top 36)) (by decide +kernel))
        (fun _ _ _ _ _ => pg_name (i := 6) scIt.nd rfl (Or.inl rfl)) (fun _ _ _ _ _ => pts_one (pt_cmpR op_eq (pe_fldK (K := K) rfl (pv 6) (by rfl)) (pv 3) (nomark _))) (fun _ _ _ _ _ => C8.pe_mt mW hr (by decide) (pv 6) (pa_cons (pv 1) pa_nil)))
      (pss_one (ps_ret (pe_and (pe_cmpR (op_ne_nil hr.units0) (pv 5) (pe_lst pa_nil) (nomark _)) (pe_one (pe_not (C8.pe_mt mB hr (by decide) (pe_ix ix_list (pv 5) pe_int (fun _ _ => rfl)) (pa_cons (pv 4) pa_nil))))))))))), ?_⟩
    refine ⟨_, rfl, _, _, _, _, true, rfl, .ty _, .base (.tup hu), kit_ty (by decide +kernel), true, rfl, iteF ?_⟩
    refine ⟨_, rfl, u, _, rfl, .inr (SqT.of hu), rfl, _, rfl, iteF (nxt ?_)⟩
    refine ⟨_, rfl, u, _, rfl, SqT.of hu, rfl, _, _, rfl, _, _, rfl, rfl, ?_⟩
    refine ⟨_, rfl, _, _, _, _, true, rfl, .ty _, .base (.str m), kit_ty (by decide +kernel), true, rfl, iteF ?_⟩
    refine ⟨_, rfl, v, dv, _, rfl, hv, true, rfl, iteF ?_⟩
    refine ⟨_, rfl, v, dv, _, rfl, hv, rfl, v, t, rfl, wv, _, rfl, ?_⟩
    rw [decide_eq_false (show ¬ t = 0 by grind)]
    refine iteF (nxt ?_)
    refine ⟨_, rfl, a, rfl, ⟨_, hs⟩, fun D nD => lc_it (walk_tup (xs := l.map fun x : Addr × CK => V.ref x.1)) (fun i H1 => Ext H H1 ∧ ∃ ws : List Addr, H1 D = some (.lst (ws.map V.ref)) ∧ WsAt K H1 ws (ofMark (l.take i) m z)) ⟨Ext.upd nD, [], upd_same, .nil⟩ (fun i H1 _ p => hs.ext p.1) (fun i x H1 H2 hi p y => ?_) fun H1 p => ?_⟩
    · obtain ⟨e, ws, hD, hw⟩ := p
      obtain ⟨rfl, hx⟩ := y
      rw [List.getElem?_map] at hx
      obtain ⟨c, hcu, rfl⟩ := Option.map_eq_some_iff.mp hx
      have cm := List.mem_of_getElem? hcu
      have ca := (hc c cm).kp (Kp.of e)
      obtain ⟨dc, tc, hcc, _⟩ := id ca
      have st := ofMark_take (m := m) (z := z) hcu
      refine ⟨rfl, ?_⟩
      refine ⟨_, rfl, c.1, _, dc, _, _, rfl, hcc, Z.cl_Cask, Z.n_Cask_mark, rfl, _, rfl, rfl, _, rfl, ?_⟩
      by_cases e2 : mk c.2.fig = m
      · rw [decide_eq_true (show V.str (mk c.2.fig) = V.str m by rw [e2])]
        rw [if_pos e2] at st
        refine iteT ?_
        refine ⟨_, rfl, c.1, dc, _, rfl, hcc, rfl, _, rfl, c.1, c.2, z, rfl, ca, (ok c cm).parts, fun p H3 e3 np wp => ?_⟩
        have hD3 := e3 _ _ hD
        refine ⟨_, hD3, ?_, Ext.put (e.trans e3) nD, ws ++ [p], ?_, ?_⟩
        · have l1 := hw.len
          have l2 : (ofMark (l.take i) m z).length ≤ (l.take i).length := by
            unfold ofMark
            rw [List.length_map]
            exact List.length_filter_le _ _
          rw [List.length_take] at l2
          rw [List.length_map, sizeLine_eq]
          omega
        · rw [upd_same, List.map_append]
          rfl
        · rw [st]
          exact paired_snoc (wp.kp (Kp.put hD3)) ((hw.ext e3).kp (Kp.put hD3))
      · rw [decide_eq_false (show ¬ V.str (mk c.2.fig) = V.str m from fun y => e2 (by injection y))]
        rw [if_neg e2] at st
        exact iteF ⟨e, ws, hD, by rw [st]; exact hw⟩
    · obtain ⟨e, ws, hD, hw⟩ := p
      rw [List.length_map, List.take_length] at hw
      have hall : ∀ r ∈ ofMark l m z, t ≤ r ∧ Sz 300 r := fun r hr => by
        unfold ofMark at hr
        obtain ⟨c, hc', rfl⟩ := List.mem_map.mp hr
        obtain ⟨c1, c2⟩ := List.mem_filter.mp hc'
        exact ⟨tle c c1 (of_decide_eq_true c2), wof_sz (ok c c1).parts z⟩
      have hne : ofMark l m z ≠ [] := by
        have : wof y.2.parts z ∈ ofMark l m z := by
          unfold ofMark
          exact List.mem_map.mpr ⟨y, List.mem_filter.mpr ⟨hy, decide_eq_true em⟩, rfl⟩
        intro z
        rw [z] at this
        cases this
      match ws, ofMark l m z, hw, hne, hall with
      | [], [], _, hne, _ => exact absurd rfl hne
      | p :: ws, r :: rs, .cons wp hw, _, hall =>
        obtain ⟨t1, t2⟩ := hall r List.mem_cons_self
        refine ⟨_, rfl, by decide, fun L nL => ?_⟩
        have nLD : D ≠ L := ne_of_none hD nL
        refine ⟨D, L, _, rfl, rfl, (upd_ne nLD).trans hD, upd_same, (by intro z; cases z), true, rfl, iteT ?_⟩
        have wp' := wp.kp (Kp.new (o := .lst []) nL)
        obtain ⟨dp, hp⟩ := id wp'
        have wv' := (wv.ext e).kp (Kp.new (o := .lst []) nL)
        refine ⟨_, rfl, D, _, 0, .ref p, rfl, rfl, SqL.of ((upd_ne nLD).trans hD), atI_nat (j := 0) rfl, p, dp, _, rfl, hp, rfl, _, rfl, p, v, r, t, 300, 3700, rfl, wp', wv', t2, tz, by decide, by decide, by decide, _, rfl, ?_⟩
        rw [decide_eq_false (show ¬ r < t by grind)]
        exact q _ (e.trans (Ext.upd nL))
/-! ### taking_holds -/
def spTh (K : PySem.W.Frag) : Sp := fun vs H Q _ => ∃ (a t : Addr) (us : List Addr) (l : List (Addr × CK)) (z : Str) (g : Int) (es : List (Str × Rat)), vs = [.ref a, .str z, .int g, .ref t] ∧ SqT K H a (l.map fun x : Addr × CK => V.ref x.1) ∧ CasksAt K H l ∧ (∀ x ∈ l, CkOk x.2) ∧ l.length ≤ 12 ∧
  H t = some (.tup (us.map V.ref)) ∧ Paired (PartAt K H) us es ∧ es.length ≤ 12 ∧ (∀ e ∈ es, 0 < e.2 ∧ Sz 300 e.2 ∧ (∃ x ∈ l, mk x.2.fig = e.1) ∧ ∀ x ∈ l, mk x.2.fig = e.1 → e.2 ≤ wof x.2.parts z) ∧ (es.map (·.1)).Nodup ∧ (es.map (·.2)).sum = g ∧ 0 ≤ g ∧ g < 2 ^ 20 ∧
  ∀ H', Ext H H' → Q (.bl true) H'
theorem scTh : FnScope ["casks", "ware", "grains", "thing", "pair", "marks", "mark", "weight"] ["casks", "ware", "grains", "thing"] (defScope (top 37)) := ⟨rfl, rfl, rfl, by decide +kernel, rfl, by decide +kernel, by decide +kernel⟩
theorem ok_th (Z : Wd K mg) : C8.Cal P w K mg base 8 "taking_holds" (spTh K) [] := by
  refine cal (st := top 37) Z.d_taking_holds Z.g_taking_holds scTh (fun vs H Q E h => ?_) (fun _ _ _ _ _ _ us hl => match us, hl with | [_, _, _, _], _ => rfl) fun cdv A outer s H vs Q E hr h => ?_
  · obtain ⟨a, t, us, l, z, g, es, rfl, _⟩ := h
    rfl
  · obtain ⟨a, t, us, l, z, g, es, rfl, hs, hc, ok, hl, ht, hp, he, hes, nd, sm, g0, g1, q⟩ := h
    have cI := ok_it (P := P) (w := w) (base := base) Z
    have cT := ok_total (P := P) (w := w) (base := base) Z
    have lp := Paired.length hp
    refine ⟨_, PSs.nox (pss_cons (ps_if (PW.pt (pw_or (pt_not (pt_val (pe_callB call_isi (by rfl) Z.f_isinstance (by decide +kernel) (pa_cons (pv 3) (pa_cons (pe_bltn (by rfl) Z.f_tuple (by decide +kernel) (v := .ty "tuple") rfl) pa_nil)))))
        (pw_or1 (pt_not (pt_val (pe_callB (cr_all rfl) (by rfl) Z.f_all (by decide +kernel) (pa_cons (pe_lc (own := [("pair", 4)]) (g := gName 4) (tt := tYes) rfl scTh.nd (pi_tup (pv 3)) (blkOk_by (own := [("pair", 4)]) (N := ["casks", "ware", "grains", "thing", "pair", "marks", "mark", "weight"]) (sc := defScope (top 37)) (by decide +kernel))
          (fun _ _ _ _ _ => pg_name (i := 4) scTh.nd rfl (Or.inl rfl)) (fun _ _ _ _ _ => pts_nil) (fun _ _ _ _ _ => C8.pe_c cI hr (by decide) (by rfl) (pa_cons (pv 0) (pa_cons (pv 1) (pa_cons (pv 4) pa_nil))))) pa_nil))))))) (pss_one (ps_ret pe_bl)) pss_nil)
      (pss_cons (ps_setLc (i := 5) (own := [("mark", 6), ("weight", 7)]) (g := gTup K 2 (gCons (gName 6) (gCons (gName 7) gNil))) (tt := tYes) rfl scTh.nd rfl rfl (sw_true rfl rfl rfl (by decide +kernel)) (pi_tup (pv 3)) (blkOk_by (own := [("mark", 6), ("weight", 7)]) (N := ["casks", "ware", "grains", "thing", "pair", "marks", "mark", "weight"]) (sc := defScope (top 37)) (by decide +kernel))
        (fun _ _ _ _ _ => pg_tup rfl (pgs_cons (pg_name (i := 6) scTh.nd rfl (Or.inl rfl)) (pgs_cons (pg_name (i := 7) scTh.nd rfl (Or.inl rfl)) pgs_nil))) (fun _ _ _ _ _ => pts_nil) (fun _ _ _ _ _ => pv 6))
      (pss_cons (ps_if (pt_cmpR op_ne (pe_lenSetT (by rfl) Z.f_len (by rfl) Z.f_set (pv 5)) (pe_callB call_len_seq (by rfl) Z.f_len PySem.boot_len (pa_cons (pv 5) pa_nil)) (nomark _)) (pss_one (ps_ret pe_bl)) pss_nil)
      (pss_one (ps_ret (pe_cmpR (op_eqW (eqc Z) Z.m_Weight___eq__ hr (by decide)) (C8.pe_c cT hr (by decide) (by rfl) (pa_cons (pe_callTy call_tuple_of (by rfl) Z.f_tuple (by decide +kernel) (pa_cons (pe_lc (own := [("mark", 6), ("weight", 7)]) (g := gTup K 2 (gCons (gName 6) (gCons (gName 7) gNil))) (tt := tYes) rfl scTh.nd (pi_tup (pv 3)) (blkOk_by (own := [("mark", 6), ("weight", 7)]) (N := ["casks", "ware", "grains", "thing", "pair", "marks", "mark", "weight"]) (sc := defScope (top 37)) (by decide +kernel))
        (fun _ _ _ _ _ => pg_tup rfl (pgs_cons (pg_name (i := 6) scTh.nd rfl (Or.inl rfl)) (pgs_cons (pg_name (i := 7) scTh.nd rfl (Or.inl rfl)) pgs_nil))) (fun _ _ _ _ _ => pts_nil) (fun _ _ _ _ _ => pv 7)) pa_nil)) pa_nil))
        (pe_mkI (mak_w1 (P := P) (w := w) (base := base) Z) hr (by decide) (by rfl) rW1_imp (pa_cons (pv 2) pa_nil)) (nomark _))))))), ?_⟩
    refine ⟨_, rfl, _, _, _, _, true, rfl, .ty _, .base (.tup ht), kit_ty (by decide +kernel), true, rfl, iteF ?_⟩
    refine ⟨_, rfl, t, rfl, ⟨_, SqT.of ht⟩, fun D nD => lc_it (walk_tup (xs := us.map V.ref)) (PvAll H D) (PvAll.start nD) (fun i H1 _ p => SqT.of (p.1 _ _ ht)) (fun i x H1 H2 hi p y => ?_) fun H1 p => ?_⟩
    · obtain ⟨rfl, hx⟩ := y
      rw [List.getElem?_map] at hx
      obtain ⟨u, hu, rfl⟩ := Option.map_eq_some_iff.mp hx
      obtain ⟨e, hee, pe⟩ := paired_get hp hu
      obtain ⟨x1, x2, x3, x4⟩ := hes e (List.mem_of_getElem? hee)
      refine ⟨rfl, _, rfl, _, rfl, _, rfl, a, u, l, z, e.1, e.2, rfl, hs.ext p.1, hc.kp (Kp.of p.1), ok, hl, pe.kp (Kp.of p.1), x1, x2.mono (by decide), x3, x4, fun H3 e3 => ?_⟩
      exact ⟨_, e3 _ _ p.2, by rw [List.length_map, List.length_replicate, sizeLine_eq]; have : i < (us.map V.ref).length := hi; rw [List.length_map] at this; omega, p.turn nD e3⟩
    refine ⟨D, _, rfl, SqL.of p.2, true, by rw [all_true], iteF (nxt ?_)⟩
    have e1 := p.1
    refine ⟨_, rfl, t, rfl, ⟨_, SqT.of (e1 _ _ ht)⟩, fun D2 nD2 => lc_it (walk_tup (xs := us.map V.ref)) (fun i H2 => Ext H1 H2 ∧ H2 D2 = some (.lst (((es.take i).map (·.1)).map V.str))) ⟨Ext.upd nD2, upd_same⟩ (fun i H2 _ p => SqT.of (p.1 _ _ (e1 _ _ ht))) (fun i x H2 H3 hi p2 y => ?_) fun H2 p2 => ?_⟩
    · obtain ⟨rfl, hx⟩ := y
      rw [List.getElem?_map] at hx
      obtain ⟨u, hu, rfl⟩ := Option.map_eq_some_iff.mp hx
      obtain ⟨e, hee, v, hv, wv⟩ := paired_get hp hu
      refine ⟨u, _, rfl, SqT.of (p2.1 _ _ (e1 _ _ hv)), rfl, _, _, rfl, _, _, rfl, rfl, rfl, _, rfl, _, p2.2, ?_, Ext.put p2.1 nD2, ?_⟩
      · rw [List.length_map, List.length_map, List.length_take, sizeLine_eq]
        omega
      · rw [upd_same, take_snoc hee, List.map_append, List.map_append]
        rfl
    have e12 := e1.trans p2.1
    have el : es.take (us.map V.ref).length = es := List.take_of_length_le (by rw [List.length_map, lp]; exact Nat.le_refl _)
    have hD2 := p2.2
    rw [el] at hD2
    refine ⟨_, rfl, D2, es.map (·.1), rfl, SqL.of hD2, nd, by rw [List.length_map]; omega, _, rfl, D2, _, rfl, .inl (SqL.of hD2), rfl, _, rfl, ?_⟩
    rw [decide_eq_true (show V.int ((es.map (·.1)).length : Nat) = V.int (((es.map (·.1)).map V.str).length : Nat) by rw [List.length_map, List.length_map, List.length_map])]
    refine iteF (nxt ?_)
    refine ⟨_, rfl, t, rfl, ⟨_, SqT.of (e12 _ _ ht)⟩, fun D3 nD3 => lc_it (walk_tup (xs := us.map V.ref)) (fun i H3 => Ext H2 H3 ∧ ∃ ws : List Addr, H3 D3 = some (.lst (ws.map V.ref)) ∧ WsAt K H2 ws ((es.take i).map (·.2))) ⟨Ext.upd nD3, [], upd_same, .nil⟩ (fun i H3 _ p => SqT.of (p.1 _ _ (e12 _ _ ht))) (fun i x H3 H4 hi p3 y => ?_) fun H3 p3 => ?_⟩
    · obtain ⟨e3, ws, hD3, hw⟩ := p3
      obtain ⟨rfl, hx⟩ := y
      rw [List.getElem?_map] at hx
      obtain ⟨u, hu, rfl⟩ := Option.map_eq_some_iff.mp hx
      obtain ⟨e, hee, v, hv, wv⟩ := paired_get hp hu
      refine ⟨u, _, rfl, SqT.of (e3 _ _ (e12 _ _ hv)), rfl, _, _, rfl, _, _, rfl, rfl, rfl, _, rfl, _, hD3, ?_, Ext.put e3 nD3, ws ++ [v], ?_, ?_⟩
      · have l1 := hw.len
        rw [List.length_map, List.length_take] at l1
        rw [List.length_map, sizeLine_eq]
        omega
      · rw [upd_same, List.map_append]
        rfl
      · rw [take_snoc hee, List.map_append]
        exact paired_snoc (wv.ext e12) hw
    obtain ⟨e3, ws, hD3, hw⟩ := p3
    rw [el] at hw
    refine ⟨D3, _, rfl, .inl ⟨SqL.of hD3, fun T nT => ?_⟩⟩
    have hz : ((es.map (·.2)).length + 1) * (300 + 1) ≤ 7000 := by
      rw [List.length_map]
      exact Nat.le_trans (Nat.mul_le_mul_right 301 (show es.length + 1 ≤ 13 by omega)) (by decide)
    have hw5 : WsAt K (upd H3 T (.tup (ws.map V.ref))) ws (es.map (·.2)) := (hw.ext e3).ext (Ext.upd nT)
    have n0 : 0 < 300 := by decide
    refine ⟨T, ws, es.map (·.2), 300, rfl, .inr (SqT.of upd_same), hw5, fun r hr => ?_, n0, ?_, fun pt H5 e5 npt wt => ?_⟩
    · obtain ⟨e, hee, rfl⟩ := List.mem_map.mp hr
      obtain ⟨x1, x2, _⟩ := hes e hee
      exact ⟨Rat.le_of_lt x1, x2⟩
    · exact hz
    refine ⟨_, rfl, g, rfl, g0, ?_, fun pg H6 e6 npg wg => ?_⟩
    · have e2 : (2 : Int) ^ 20 = 1048576 := by decide
      exact pow_lt (show g.natAbs < 2 ^ 20 by have e : (2 : Nat) ^ 20 = 1048576 := by decide
                                              omega) (by decide)
    rw [sm] at wt
    exact ⟨dw_of (wt.ext e6) wg, fun H7 e7 => q H7 ((((e12.trans e3).trans (Ext.upd nT)).trans (e5.trans e6)).trans e7)⟩
end
end K34
set_option Elab.async false
set_option linter.all false
set_option maxRecDepth 100000
set_option maxHeartbeats 2000000
/-! K34D: draws. -/
namespace K34
open PySem PySem.Spec PyProof.Rows L2
/-- all but d stays -/
def EB (d : Addr) (H H' : Hp) : Prop := ∀ b o, b ≠ d → H b = some o → H' b = some o
theorem EB.rfl' {d : Addr} {H : Hp} : EB d H H := fun _ _ _ h => h
theorem EB.trans {d : Addr} {H H1 H2 : Hp} (a : EB d H H1) (b : EB d H1 H2) : EB d H H2 := fun c o n h => b c o n (a c o n h)
theorem EB.of {d : Addr} {H H' : Hp} (e : Ext H H') : EB d H H' := fun b o _ h => e b o h
theorem EB.upd {d : Addr} {H : Hp} {o : HO} : EB d H (upd H d o) := fun b u n h => by
  rw [upd_ne n]
  exact h
/-- a deck: what is left of the cell, the draws so far, the mixed cell -/
def DeckAt (H : Hp) (d : Addr) (N : Nat) : Prop := ∃ a n c : Int, H d = some (.lst [.int a, .int n, .int c]) ∧ 0 ≤ a ∧ 0 ≤ n ∧ n ≤ N ∧ 0 ≤ c ∧ c < 2147483647
theorem DeckAt.ext {H H' : Hp} {d : Addr} {N : Nat} (h : DeckAt H d N) (e : Ext H H') : DeckAt H' d N := let ⟨a, n, c, h1, h2⟩ := h; ⟨a, n, c, e _ _ h1, h2⟩
theorem DeckAt.mono {H : Hp} {d : Addr} {N M : Nat} (h : DeckAt H d N) (m : N ≤ M) : DeckAt H d M := let ⟨a, n, c, h1, h2, h3, h4, h5⟩ := h; ⟨a, n, c, h1, h2, h3, by omega, h5⟩
theorem DeckAt.ne {H : Hp} {d b : Addr} {N : Nat} {o : HO} (h : DeckAt H d N) (hb : H b = some o) (n : ∀ xs, o ≠ .lst xs) : b ≠ d := fun z => by
  obtain ⟨a, m, c, h1, _⟩ := h
  rw [z, h1] at hb
  exact n _ (Option.some.inj hb).symm
theorem DeckAt.new {H : Hp} {d b : Addr} {N : Nat} (h : DeckAt H d N) (hb : H b = none) : d ≠ b := fun z => by
  obtain ⟨a, m, c, h1, _⟩ := h
  rw [z, hb] at h1
  cases h1
theorem DeckAt.upd {H : Hp} {d b : Addr} {N : Nat} {o : HO} (h : DeckAt H d N) (hb : d ≠ b) : DeckAt (upd H b o) d N := let ⟨a, m, c, h1, h2⟩ := h; ⟨a, m, c, (upd_ne hb).trans h1, h2⟩
/-- data stays -/
theorem EB.kp {d : Addr} {N : Nat} {H H' : Hp} (e : EB d H H') (h : DeckAt H d N) : Kp H H' := fun b o hb n _ => e b o (h.ne hb n) hb
theorem EB.put {d D : Addr} {H H1 : Hp} {o : HO} (e : EB d H H1) (h : H D = none) : EB d H (L2.upd H1 D o) := fun b u n z => by
  rw [upd_ne (ne_of_none z h)]
  exact e b u n z
theorem EB.tabs {d : Addr} {N : Nat} {H H' : Hp} {T : List (Addr × Str)} (e : EB d H H') (h : DeckAt H d N) (t : LamX.Tabs T H) : LamX.Tabs T H' := fun p hp => by
  obtain ⟨ps, h1, h2, h3⟩ := t p hp
  refine ⟨ps, e _ _ (h.ne h1 fun _ z => by cases z) h1, h2, fun pos cv hc => ?_⟩
  obtain ⟨c, e1, e2⟩ := h3 pos cv hc
  exact ⟨c, e1, e _ _ (h.ne e2 fun _ z => by unfold LamX.CodeO at z; cases z) e2⟩
section
variable {P : Program} {w : World} {K : PySem.W.Frag} {mg : Str → Option Value} {base : Heap}
/-! ### _law_deck -/
def spDeck : Sp := fun vs H Q _ => ∃ c : Int, vs = [.int c] ∧ ∀ d H', Ext H H' → H d = none → DeckAt H' d 0 → Q (.ref d) H'
theorem scDeck : FnScope ["_law_cell"] ["_law_cell"] (defScope (top 47)) := ⟨rfl, rfl, rfl, by decide +kernel, rfl, by decide +kernel, by decide +kernel⟩
theorem ok_deck (Z : Wd K mg) : C8.Cal P w K mg base 1 "_law_deck" spDeck [] := by
  refine cal (st := top 47) Z.d__law_deck Z.g__law_deck scDeck (fun vs H Q E h => ?_) (fun _ _ _ _ _ _ us hl => match us, hl with | [_], _ => rfl) fun cdv A outer s H vs Q E hr h => ?_
  · obtain ⟨c, rfl, _⟩ := h
    rfl
  · obtain ⟨c, rfl, q⟩ := h
    refine ⟨_, PSs.nox (pss_cons (ps_if (pt_cmpR op_lt (pv 0) (pe_op op_pow pe_int pe_int) (nomark _)) (pss_one (ps_ret (pe_lst (pa_cons pe_int (pa_cons pe_int (pa_cons (pe_op op_mod (pv 0) pe_int) pa_nil)))))) pss_nil)
      (pss_one (ps_ret (pe_lst (pa_cons (pv 0) (pa_cons pe_int (pa_cons (pe_op op_mod (pv 0) pe_int) pa_nil))))))), ?_⟩
    have m0 := Int.emod_nonneg c (show (2147483647 : Int) ≠ 0 by decide)
    have m1 := Int.emod_lt_of_pos c (show (0 : Int) < 2147483647 by decide)
    refine ⟨_, rfl, 10, 18, rfl, rfl, ⟨by decide, by decide, by decide⟩, _, _, rfl, rfl, _, rfl, ?_⟩
    by_cases hc : c < 10 ^ (18 : Int).toNat
    · rw [decide_eq_true hc]
      refine iteT ⟨_, rfl, _, _, rfl, rfl, (by show (0 : Int) < 2147483647; decide), (by show 3 ≤ sizeLine; rw [sizeLine_eq]; omega), fun l nl => q l _ (Ext.upd nl) nl ⟨0, 0, _, upd_same, by decide, by decide, by decide, m0, m1⟩⟩
    · rw [decide_eq_false hc]
      have c0 : 0 ≤ c := by
        have : (0 : Int) ≤ 10 ^ (18 : Int).toNat := by decide
        omega
      exact iteF (nxt ⟨_, rfl, _, rfl, _, _, rfl, rfl, (by show (0 : Int) < 2147483647; decide), (by show 3 ≤ sizeLine; rw [sizeLine_eq]; omega), fun l nl => q l _ (Ext.upd nl) nl ⟨c, 0, _, upd_same, c0, by decide, by decide, m0, m1⟩⟩)
/-! ### _law_draw -/
def spDraw : Sp := fun vs H Q _ => ∃ (d : Addr) (m : Int) (N : Nat), vs = [.ref d, .int m] ∧ 1 ≤ m ∧ m ≤ 1000000 ∧ DeckAt H d N ∧ N ≤ 2 ^ 40 ∧ ∀ r H', 0 ≤ r → r < m → EB d H H' → DeckAt H' d (N + 1) → Q (.int r) H'
theorem scDraw : FnScope ["_law_deck_here", "_law_most", "_law_found", "_law_mixed"] ["_law_deck_here", "_law_most"] (defScope (top 48)) := ⟨rfl, rfl, rfl, by decide +kernel, rfl, by decide +kernel, by decide +kernel⟩
theorem ok_draw (Z : Wd K mg) : C8.Cal P w K mg base 1 "_law_draw" spDraw [] := by
  refine cal (st := top 48) Z.d__law_draw Z.g__law_draw scDraw (fun vs H Q E h => ?_) (fun _ _ _ _ _ _ us hl => match us, hl with | [_, _], _ => rfl) fun cdv A outer s H vs Q E hr h => ?_
  · obtain ⟨d, m, N, rfl, _⟩ := h
    rfl
  · obtain ⟨d, m, N, rfl, m1, m2, ⟨a, n, c, hd, a0, n0, nN, c0, c1⟩, hN, q⟩ := h
    refine ⟨_, PSs.nox (pss_cons (ps_if (pt_cmpR op_gt (pe_ix ix_list (pv 0) pe_int (fun _ _ => rfl)) pe_int (nomark _))
        (pss_cons (ps_set (i := 2) scDraw.nd rfl (.inl rfl) (pe_op op_mod (pe_ix ix_list (pv 0) pe_int (fun _ _ => rfl)) (pv 1)))
        (pss_cons (ps_asg (pe_op op_fdivW (pe_ix ix_list (pv 0) pe_int (fun _ _ => rfl)) (pv 1)) (pg_sub (pv 0) pe_int set_list)) (pss_one (ps_ret (pv 2))))) pss_nil)
      (pss_cons (ps_asg (pe_op op_add (pe_ix ix_list (pv 0) pe_int (fun _ _ => rfl)) pe_int) (pg_sub (pv 0) pe_int set_list))
      (pss_cons (ps_set (i := 3) scDraw.nd rfl (.inl rfl) (pe_op op_mod (pe_op op_mulW (pe_op op_add (pe_ix ix_list (pv 0) pe_int (fun _ _ => rfl)) (pe_op op_mulW (pe_op op_mulW pe_int (pe_ix ix_list (pv 0) pe_int (fun _ _ => rfl))) (pe_ix ix_list (pv 0) pe_int (fun _ _ => rfl)))) pe_int) pe_int))
      (pss_one (ps_ret (pe_op op_mod (pe_op op_fdivW (pe_op op_mod (pe_op op_mulW (pv 3) (pe_op op_add (pv 3) pe_int)) pe_int) pe_int) (pv 1))))))), ?_⟩
    have zm : m.natAbs < 2 ^ 20 := by
      have e : (2 : Nat) ^ 20 = 1048576 := by decide
      omega
    have i0 : ∀ x y z : V, atI [x, y, z] 0 = some x := fun x y z => atI_nat (j := 0) rfl
    have i1 : ∀ x y z : V, atI [x, y, z] 1 = some y := fun x y z => atI_nat (j := 1) rfl
    have i2 : ∀ x y z : V, atI [x, y, z] 2 = some z := fun x y z => atI_nat (j := 2) rfl
    refine ⟨_, rfl, d, _, 0, .int a, rfl, rfl, SqL.of hd, i0 _ _ _, _, _, rfl, rfl, _, rfl, ?_⟩
    by_cases ha : a > 0
    · rw [decide_eq_true ha]
      refine iteT ⟨_, rfl, d, _, 0, .int a, rfl, rfl, SqL.of hd, i0 _ _ _, _, rfl, _, _, rfl, rfl, (show (0 : Int) < m by omega), ?_⟩
      refine ⟨_, rfl, d, _, 0, .int a, rfl, rfl, SqL.of hd, i0 _ _ _, _, rfl, _, _, rfl, rfl, wide_div (by omega) zm (by decide) (by decide), ?_⟩
      refine ⟨_, rfl, d, _, 0, 0, rfl, rfl, hd, rfl, _, rfl, ?_⟩
      exact q _ _ (Int.emod_nonneg a (by omega)) (Int.emod_lt_of_pos a (by omega)) EB.upd ⟨a / m, n, c, upd_same, Int.ediv_nonneg a0 (by omega), n0, by omega, c0, c1⟩
    · rw [decide_eq_false ha]
      refine iteF (nxt ?_)
      refine ⟨_, rfl, d, _, 1, .int n, rfl, rfl, SqL.of hd, i1 _ _ _, _, _, rfl, rfl, _, rfl, d, _, 1, 1, rfl, rfl, hd, rfl, ?_⟩
      have hd2 : upd H d (.lst ([V.int a, .int n, .int c].set 1 (.int (n + 1)))) d = some (.lst [.int a, .int (n + 1), .int c]) := upd_same
      have e40 : (2 : Nat) ^ 40 = 1099511627776 := by decide
      have b1 : (n + 1).natAbs < 2 ^ 41 := by
        have e41 : (2 : Nat) ^ 41 = 2199023255552 := by decide
        omega
      have b2 : ((7919 : Int) * (n + 1)).natAbs < 2 ^ (13 + 41) := wide_lt (by decide) b1
      have b3 : ((7919 : Int) * (n + 1) * (n + 1)).natAbs < 2 ^ (13 + 41 + 41) := wide_lt b2 b1
      have nn : 0 ≤ (7919 : Int) * (n + 1) * (n + 1) := Int.mul_nonneg (Int.mul_nonneg (by decide) (by omega)) (by omega)
      have b4 : (c + 7919 * (n + 1) * (n + 1)).natAbs < 2 ^ 96 := by
        have e1 : (2 : Nat) ^ (13 + 41 + 41) = 39614081257132168796771975168 := by decide
        have e2 : (2 : Nat) ^ 96 = 79228162514264337593543950336 := by decide
        omega
      refine ⟨_, rfl, d, _, 2, .int c, rfl, rfl, SqL.of hd2, i2 _ _ _, _, rfl, d, _, 1, .int (n + 1), rfl, rfl, SqL.of hd2, i1 _ _ _, _, _, rfl, rfl, wide_mul (show (7919 : Int).natAbs < 2 ^ 13 by decide) b1 (by decide) (by decide) (by decide), ?_⟩
      refine ⟨_, rfl, d, _, 1, .int (n + 1), rfl, rfl, SqL.of hd2, i1 _ _ _, _, _, rfl, rfl, wide_mul b2 b1 (by decide) (by decide) (by decide), ?_⟩
      refine ⟨_, _, rfl, rfl, _, _, rfl, rfl, wide_mul b4 (show (48271 : Int).natAbs < 2 ^ 16 by decide) (by decide) (by decide) (by decide), _, _, rfl, rfl, (by show (0 : Int) < 2147483647; decide), ?_⟩
      have m0 := Int.emod_nonneg ((c + 7919 * (n + 1) * (n + 1)) * 48271) (show (2147483647 : Int) ≠ 0 by decide)
      have mm := Int.emod_lt_of_pos ((c + 7919 * (n + 1) * (n + 1)) * 48271) (show (0 : Int) < 2147483647 by decide)
      have x1 : (((c + 7919 * (n + 1) * (n + 1)) * 48271) % 2147483647).natAbs < 2 ^ 31 := by omega
      have x2 : (((c + 7919 * (n + 1) * (n + 1)) * 48271) % 2147483647 + 69621).natAbs < 2 ^ 32 := by omega
      refine ⟨_, rfl, _, rfl, _, _, rfl, rfl, _, _, rfl, rfl, wide_mul x1 x2 (by decide) (by decide) (by decide), _, _, rfl, rfl, (by show (0 : Int) < 2147483629; decide), ?_⟩
      refine ⟨_, _, rfl, rfl, wide_div (by decide) (show (8 : Int).natAbs < 2 ^ 4 by decide) (by decide) (by decide), _, rfl, _, _, rfl, rfl, (show (0 : Int) < m by omega), ?_⟩
      exact q _ _ (Int.emod_nonneg _ (by omega)) (Int.emod_lt_of_pos _ (by omega)) EB.upd ⟨a, n + 1, c, hd2, a0, by omega, by omega, c0, c1⟩
end
end K34
set_option Elab.async false
set_option linter.all false
set_option maxRecDepth 100000
set_option maxHeartbeats 4000000
/-! K34D2: names. -/
namespace K34
open PySem PySem.Spec PyProof.Rows L2
abbrev lettersS : Str := "abcdefghijklmnopqrstuvwxyz"
theorem letC_inj : ∀ i, i < 26 → ∀ j, j < 26 → letC.getD i 0 = letC.getD j 0 → i = j := by decide
theorem letC_mem : ∀ i, i < 26 → letC.getD i 0 ∈ letC := by decide
theorem letters_at {i : Int} (h0 : 0 ≤ i) (h1 : i < 26) : atI lettersS.cps.toList i = some (letC.getD i.toNat 0) := by
  rw [letC_eq]
  obtain ⟨n, rfl⟩ := Int.eq_ofNat_of_zero_le h0
  refine atI_nat (j := n) ?_
  have hn : n < 26 := by omega
  have hl : n < letC.length := hn
  rw [Int.toNat_natCast, List.getD_eq_getElem?_getD, List.getElem?_eq_getElem hl]
  rfl
def chV (c : Nat) : V := .str (SX.S [c])
theorem joinL_one : ∀ cs : List Nat, TL.joinL [] (cs.map fun c => [c]) = cs
  | [] => rfl
  | [c] => rfl
  | c :: d :: r => by
    show [c] ++ ([] ++ TL.joinL [] ((d :: r).map fun c => [c])) = _
    rw [joinL_one (d :: r)]
    rfl
theorem join_chars (cs : List Nat) : Txt.join (SX.S []) (cs.map fun c => SX.S [c]) = SX.S cs := by
  have := SX.join_S [] (cs.map fun c => [c])
  rw [List.map_map] at this
  rw [joinL_one] at this
  exact this
/-- the k-th name: bs but at a place, a letter more for each second one -/
def nmC (f k : Nat) : Nat := letC.getD ((f + k) % 26) 0
def nmL (bs : List Nat) (at_ f : Nat) (lng : List Nat) (k : Nat) : List Nat := bs.set at_ (nmC f k) ++ (if k % 2 = 1 then lng else [])
theorem nmL_ne {bs lng : List Nat} {at_ f i j : Nat} (ha : at_ < bs.length) (hij : i < j) (hj : j < 26) : SX.S (nmL bs at_ f lng i) ≠ SX.S (nmL bs at_ f lng j) := fun z => by
  have e := SX.S_inj z
  have e1 : (nmL bs at_ f lng i)[at_]? = (nmL bs at_ f lng j)[at_]? := by rw [e]
  unfold nmL at e1
  rw [List.getElem?_append_left (by rw [List.length_set]; exact ha), List.getElem?_append_left (by rw [List.length_set]; exact ha), List.getElem?_set_self ha, List.getElem?_set_self ha] at e1
  have e2 := letC_inj _ (Nat.mod_lt _ (by decide)) _ (Nat.mod_lt _ (by decide)) (Option.some.inj e1)
  omega
theorem nmL_ok {bs lng : List Nat} {at_ f k : Nat} (h1 : 1 ≤ bs.length) (h7 : bs.length ≤ 7) (hb : ∀ c ∈ bs, c ∈ letC) (hl : lng.length ≤ 1) (hg : ∀ c ∈ lng, c ∈ letC) : NameOk (SX.S (nmL bs at_ f lng k)) := by
  have len : (nmL bs at_ f lng k).length ≤ 8 ∧ 1 ≤ (nmL bs at_ f lng k).length := by
    unfold nmL
    rw [List.length_append, List.length_set]
    split
    · omega
    · rw [List.length_nil]
      omega
  refine ⟨by rw [SX.S_len]; exact len.2, by rw [SX.S_len]; exact len.1, fun c hc => ?_⟩
  have hc' : c ∈ nmL bs at_ f lng k := by simpa [SX.S] using hc
  unfold nmL at hc'
  rcases List.mem_append.mp hc' with z | z
  · rcases List.mem_or_eq_of_mem_set z with y | y
    · exact hb c y
    · rw [y]
      exact letC_mem _ (Nat.mod_lt _ (by decide))
  · split at z
    · exact hg c z
    · cases z
section
variable {P : Program} {w : World} {K : PySem.W.Frag} {mg : Str → Option Value} {base : Heap}
def spNames : Sp := fun vs H Q _ => ∃ (d : Addr) (many N : Nat), vs = [.ref d, .int many] ∧ many ≤ 8 ∧ DeckAt H d N ∧ N ≤ 2 ^ 39 ∧
  ∀ p H' (zs : List Str), EB d H H' → DeckAt H' d (N + 12) → H p = none → H' p = some (.lst (zs.map V.str)) → zs.length = many → zs.Nodup → (∀ z ∈ zs, NameOk z) → Q (.ref p) H'
abbrev nsN : List Str := ["_law_deck_here", "_law_many", "_law_letters", "_law_size", "_law_base", "_law_k", "_law_at", "_law_first", "_law_longer", "_law_found"]
theorem scNames : FnScope nsN ["_law_deck_here", "_law_many"] (defScope (top 49)) := ⟨rfl, rfl, rfl, by decide +kernel, rfl, by decide +kernel, by decide +kernel⟩
theorem ok_names (Z : Wd K mg) : C8.Cal P w K mg base 2 "_law_names" spNames [] := by
  refine cal (st := top 49) Z.d__law_names Z.g__law_names scNames (fun vs H Q E h => ?_) (fun _ _ _ _ _ _ us hl => match us, hl with | [_, _], _ => rfl) fun cdv A outer s H vs Q E hr h => ?_
  · obtain ⟨d, many, N, rfl, _⟩ := h
    rfl
  · obtain ⟨d, many, N, rfl, hm, dk, hN, q⟩ := h
    have cD := ok_draw (P := P) (w := w) (base := base) Z
    refine ⟨_, PSs.nox (pss_cons (ps_set (i := 2) scNames.nd rfl (.inr rfl) pe_str)
      (pss_cons (ps_set (i := 3) scNames.nd rfl (.inl rfl) (pe_op op_add pe_int (C8.pe_c cD hr (by decide) (by rfl) (pa_cons (pv 0) (pa_cons pe_int pa_nil)))))
      (pss_cons (ps_setLc (i := 4) (own := [("_law_k", 5)]) (g := gName 5) (tt := tYes) rfl scNames.nd rfl rfl (sw_true rfl rfl rfl (by decide +kernel)) (pi_range1 (by rfl) Z.f_range (pa_cons (pv 3) pa_nil)) (blkOk_by (own := [("_law_k", 5)]) (N := nsN) (sc := defScope (top 49)) (by decide +kernel))
        (fun _ _ _ _ _ => pg_name (i := 5) scNames.nd rfl (Or.inl rfl)) (fun _ _ _ _ _ => pts_nil) (fun _ _ _ _ _ => pe_ix ix_str (pv 2) (C8.pe_c cD hr (by decide) (by rfl) (pa_cons (pv 0) (pa_cons pe_int pa_nil))) (fun _ _ => rfl)))
      (pss_cons (ps_set (i := 6) scNames.nd rfl (.inl rfl) (C8.pe_c cD hr (by decide) (by rfl) (pa_cons (pv 0) (pa_cons (pv 3) pa_nil))))
      (pss_cons (ps_set (i := 7) scNames.nd rfl (.inl rfl) (C8.pe_c cD hr (by decide) (by rfl) (pa_cons (pv 0) (pa_cons pe_int pa_nil))))
      (pss_cons (ps_set (i := 8) scNames.nd rfl (.inl rfl) (pe_ix ix_list (pe_lst (pa_cons (pe_ix ix_str (pv 2) (C8.pe_c cD hr (by decide) (by rfl) (pa_cons (pv 0) (pa_cons pe_int pa_nil))) (fun _ _ => rfl)) (pa_cons pe_str pa_nil))) (C8.pe_c cD hr (by decide) (by rfl) (pa_cons (pv 0) (pa_cons pe_int pa_nil))) (fun _ _ => rfl)))
      (pss_cons (ps_set (i := 9) scNames.nd rfl (.inl rfl) (pe_lst pa_nil))
      (pss_cons (ps_for PassesOwn.never rfl (pi_range1 (by rfl) Z.f_range (pa_cons (pv 1) pa_nil)) (pg_name (i := 5) scNames.nd rfl (Or.inl rfl))
        (pss_cons (ps_asg (pe_ix ix_str (pv 2) (pe_op op_mod (pe_op op_add (pv 7) (pv 5)) pe_int) (fun _ _ => rfl)) (pg_sub (pv 4) (pv 6) set_list))
        (pss_one (ps_expr (pe_bm PySem.F.plainAttrs_list PySem.F.slot_list_append PySem.F.type_list_append mt_append (pv 9) (pa_cons (pe_op op_add_str (pe_join pe_str (pv 4)) (pe_op op_mulStr (pv 8) (pe_op op_mod (pv 5) pe_int))) pa_nil))))))
      (pss_one (ps_ret (pv 9))))))))))), ?_⟩
    have e39 : (2 : Nat) ^ 39 = 549755813888 := by decide
    have e40 : (2 : Nat) ^ 40 = 1099511627776 := by decide
    have sl : lettersS.length ≤ sizeLine := by
      rw [sizeLine_eq]
      decide +kernel
    refine ⟨_, rfl, d, 7, N, rfl, by decide, by decide, dk, by omega, fun r1 H1 r10 r11 e1 dk1 => ?_⟩
    refine ⟨_, _, rfl, rfl, _, rfl, 1 + r1, rfl, by omega, by omega, fun B nB => ?_⟩
    have nBd : d ≠ B := dk1.new nB
    obtain ⟨sz, hsz⟩ := Int.eq_ofNat_of_zero_le (show 0 ≤ 1 + r1 by omega)
    refine lc_it (walk_range (lo := 0) (n := (1 + r1).toNat)) (fun i H2 => ∃ cs : List Nat, EB d H1 H2 ∧ DeckAt H2 d (N + 1 + i) ∧ H2 B = some (.lst (cs.map chV)) ∧ cs.length = i ∧ ∀ c ∈ cs, c ∈ letC) ⟨[], EB.of (Ext.upd nB), dk1.upd nBd, upd_same, rfl, fun c hc => by cases hc⟩ (fun _ _ _ _ => trivial) (fun i x H2 H3 hi p y => ?_) fun H2 p => ?_
    · obtain ⟨rfl, rfl⟩ := y
      obtain ⟨cs, e2, dk2, hB, hcs, hl⟩ := p
      refine ⟨rfl, ?_⟩
      refine ⟨_, rfl, _, rfl, d, 26, N + 1 + i, rfl, by decide, by decide, dk2, by omega, fun r H4 h0 h1 e4 dk4 => ?_⟩
      have hB4 := e4 _ _ (Ne.symm nBd) hB
      refine ⟨lettersS, r, _, rfl, rfl, sl, letters_at h0 h1, _, hB4, ?_, cs ++ [letC.getD r.toNat 0], (e2.trans e4).put nB, dk4.upd nBd, ?_, ?_, ?_⟩
      · rw [List.length_map, hcs, sizeLine_eq]
        omega
      · rw [upd_same, List.map_append]
        rfl
      · rw [List.length_append, hcs]
        rfl
      · intro c hc
        rcases List.mem_append.mp hc with z | z
        · exact hl c z
        · rw [List.mem_singleton.mp z]
          exact letC_mem _ (by omega)
    obtain ⟨cs, e2, dk2, hB, hcs, hl⟩ := p
    have e12 := e1.trans e2
    have nBH : H B = none := by
      cases z : H B with
      | none => rfl
      | some o =>
        rw [e1 B o (Ne.symm nBd) z] at nB
        cases nB
    have dk3 : DeckAt H2 d (N + 8) := dk2.mono (by omega)
    refine ⟨_, rfl, _, rfl, d, 1 + r1, N + 8, rfl, by omega, by omega, dk3, by omega, fun rA H3 a0 a1 e3 dk4 => ?_⟩
    refine ⟨_, rfl, d, 26, N + 8 + 1, rfl, by decide, by decide, dk4, by omega, fun rF H4 f0 f1 e4 dk5 => ?_⟩
    have hB4 := e4 _ _ (Ne.symm nBd) (e3 _ _ (Ne.symm nBd) hB)
    refine ⟨_, rfl, _, rfl, d, 26, N + 8 + 1 + 1, rfl, by decide, by decide, dk5, by omega, fun rG H5 g0 g1 e5 dk6 => ?_⟩
    refine ⟨lettersS, rG, _, rfl, rfl, sl, letters_at g0 g1, (by show 2 ≤ sizeLine; rw [sizeLine_eq]; omega), fun L nL => ?_⟩
    have nLd : d ≠ L := dk6.new nL
    have dk7 : DeckAt (upd H5 L (.lst [.str ⟨#[letC.getD rG.toNat 0]⟩, .str ""])) d (N + 8 + 1 + 1 + 1) := dk6.upd nLd
    refine ⟨_, rfl, d, 2, N + 8 + 1 + 1 + 1, rfl, by decide, by decide, dk7, by omega, fun rH H6 b0 b1 e6 dk8 => ?_⟩
    have hL6 := e6 _ _ (Ne.symm nLd) upd_same
    have hB6 : H6 B = some (.lst (cs.map chV)) := e6 _ _ (Ne.symm nBd) ((upd_ne (ne_of_none (e5 _ _ (Ne.symm nBd) hB4) nL)).trans (e5 _ _ (Ne.symm nBd) hB4))
    have eH6 : EB d H H6 := ((((e12.trans e3).trans e4).trans e5).trans (EB.of (Ext.upd nL))).trans e6
    obtain ⟨lng, hlng, hl1, hl2⟩ : ∃ lng : List Nat, atI [V.str ⟨#[letC.getD rG.toNat 0]⟩, .str ""] rH = some (.str (SX.S lng)) ∧ lng.length ≤ 1 ∧ ∀ c ∈ lng, c ∈ letC := by
      rcases (show rH = 0 ∨ rH = 1 by omega) with rfl | rfl
      · exact ⟨[letC.getD rG.toNat 0], atI_nat (j := 0) rfl, Nat.le_refl _, fun c hc => by
          rw [List.mem_singleton.mp hc]
          exact letC_mem _ (by omega)⟩
      · exact ⟨[], atI_nat (j := 1) rfl, Nat.zero_le _, fun c hc => by cases hc⟩
    refine ⟨L, _, rH, _, rfl, rfl, SqL.of hL6, hlng, by decide, fun F nF => ?_⟩
    have nFd : d ≠ F := dk8.new nF
    have nFB : B ≠ F := ne_of_none hB6 nF
    refine ⟨_, rfl, (many : Nat), rfl, by omega, by omega, ?_⟩
    obtain ⟨fa, hfa⟩ := Int.eq_ofNat_of_zero_le a0
    obtain ⟨ff, hff⟩ := Int.eq_ofNat_of_zero_le f0
    subst hfa hff
    have nFH : H F = none := by
      cases z : H F with
      | none => rfl
      | some o =>
        rw [eH6 F o (Ne.symm nFd) z] at nF
        cases nF
    have lcs : fa < cs.length := by omega
    refine for_it (walk_range (lo := 0) (n := ((many : Nat) : Int).toNat)) (fun i σ H7 => (∃ kk, σ = [some (.ref d), some (.int many), some (.str lettersS), some (.int (1 + r1)), some (.ref B), kk, some (.int fa), some (.int ff), some (.str (SX.S lng)), some (.ref F)]) ∧ EB d H H7 ∧ DeckAt H7 d (N + 12) ∧
        (∃ bs : List Nat, H7 B = some (.lst (bs.map chV)) ∧ bs.length = cs.length ∧ ∀ c, bs.set fa c = cs.set fa c) ∧ H7 F = some (.lst (((List.range i).map fun k => SX.S (nmL cs fa ff lng k)).map V.str)))
      ⟨⟨none, rfl⟩, eH6.put nFH, (dk8.mono (by omega)).upd nFd, ⟨cs, (upd_ne nFB).trans hB6, rfl, fun _ => rfl⟩, upd_same⟩ (fun _ _ _ _ _ => trivial) (fun i x σ H7 H8 hi p y => ?_) fun σ H7 p => ?_
    · obtain ⟨⟨kk, rfl⟩, e7, dk9, ⟨bs, hB7, lb, hset⟩, hF⟩ := p
      obtain ⟨rfl, rfl⟩ := y
      have hi' : i < many := by simpa using hi
      have nBF : F ≠ B := Ne.symm nFB
      have ix : (((ff : Int) + (0 + (i : Int))) % 26).toNat = (ff + i) % 26 := by omega
      refine ⟨_, rfl, _, rfl, _, rfl, _, _, rfl, rfl, _, _, rfl, rfl, (by show (0 : Int) < 26; decide), ?_⟩
      refine ⟨lettersS, _, _, rfl, rfl, sl, letters_at (Int.emod_nonneg _ (by decide)) (Int.emod_lt_of_pos _ (by decide)), ?_⟩
      refine ⟨_, rfl, _, rfl, B, bs.map chV, fa, fa, rfl, rfl, hB7, ?_, ?_⟩
      · unfold ixN
        rw [if_pos (by omega), if_pos (by rw [List.length_map, lb]; omega)]
        rfl
      have hB8 : upd H8 B (.lst ((bs.map chV).set fa (.str ⟨#[letC.getD (((ff : Int) + (0 + (i : Int))) % 26).toNat 0]⟩))) B = some (.lst ((cs.set fa (nmC ff i)).map chV)) := by
        rw [upd_same, ix, ← hset (nmC ff i), List.map_set]
        rfl
      have hF8 := (upd_ne (o := .lst ((bs.map chV).set fa (.str ⟨#[letC.getD (((ff : Int) + (0 + (i : Int))) % 26).toNat 0]⟩))) (H := H8) nBF).trans hF
      have ll : ((cs.set fa (nmC ff i)).map fun c => SX.S [c]).length = cs.length := by rw [List.length_map, List.length_set]
      have sumL : ∀ xs : List Nat, ((xs.map fun c => SX.S [c]).map (·.length)).sum = xs.length := by
        intro xs
        induction xs with
        | nil => rfl
        | cons x xs ih =>
          rw [List.map_cons, List.map_cons, List.sum_cons, ih, List.length_cons, SX.S_len]
          show 1 + xs.length = _
          omega
      refine ⟨_, rfl, .inl ⟨rfl, _, SqL.of hF8⟩, ⟨_, rfl⟩, _, rfl, SX.S [], B, (cs.set fa (nmC ff i)).map (fun c => SX.S [c]), rfl, rfl, .inl (SqL.of (by rw [hB8, List.map_map]; rfl)), ?_, ?_⟩
      · rw [sumL, List.length_set]
        show _ + _ * 0 ≤ _
        omega
      rw [join_chars]
      refine ⟨_, rfl, _, rfl, _, _, rfl, rfl, (by show (0 : Int) < 2; decide), ?_⟩
      have fin : ∀ tl : List Nat, tl = (if i % 2 = 1 then lng else []) → (SX.S (cs.set fa (nmC ff i))).length + (SX.S tl).length ≤ sizeLine ∧ SX.S (cs.set fa (nmC ff i)) ++ SX.S tl = SX.S (nmL cs fa ff lng i) := fun tl e => by
        refine ⟨?_, ?_⟩
        · rw [SX.S_len, SX.S_len, List.length_set, sizeLine_eq, e]
          split
          · omega
          · rw [List.length_nil]
            omega
        · rw [SX.S_cat, e]
          rfl
      have hlen : (((List.range i).map fun k => SX.S (nmL cs fa ff lng k)).map V.str).length < sizeLine := by
        rw [List.length_map, List.length_map, List.length_range, sizeLine_eq]
        omega
      have done : ∀ H9 : Hp, H9 = upd (upd H8 B (.lst ((bs.map chV).set fa (.str ⟨#[letC.getD (((ff : Int) + (0 + (i : Int))) % 26).toNat 0]⟩)))) F (.lst (((List.range i).map fun k => SX.S (nmL cs fa ff lng k)).map V.str ++ [.str (SX.S (nmL cs fa ff lng i))])) →
          (∃ kk, ([some (.ref d), some (.int many), some (.str lettersS), some (.int (1 + r1)), some (.ref B), some (.int (0 + (i : Int))), some (.int fa), some (.int ff), some (.str (SX.S lng)), some (.ref F)] : L2.St) = [some (.ref d), some (.int many), some (.str lettersS), some (.int (1 + r1)), some (.ref B), kk, some (.int fa), some (.int ff), some (.str (SX.S lng)), some (.ref F)]) ∧ EB d H H9 ∧ DeckAt H9 d (N + 12) ∧
          (∃ bs : List Nat, H9 B = some (.lst (bs.map chV)) ∧ bs.length = cs.length ∧ ∀ c, bs.set fa c = cs.set fa c) ∧ H9 F = some (.lst (((List.range (i + 1)).map fun k => SX.S (nmL cs fa ff lng k)).map V.str)) := fun H9 e => by
        subst e
        refine ⟨⟨_, rfl⟩, (e7.put nBH).put nFH, (dk9.upd nBd).upd nFd, ⟨cs.set fa (nmC ff i), (upd_ne nFB).trans hB8, by rw [List.length_set], fun c => by rw [List.set_set]⟩, ?_⟩
        rw [upd_same, List.range_succ, List.map_append, List.map_append]
        rfl
      rcases Nat.mod_two_eq_zero_or_one i with z | z
      · obtain ⟨f1', f2'⟩ := fin [] (by rw [if_neg (by omega)])
        refine ⟨SX.S lng, _, rfl, rfl, .inl ⟨by omega, ?_⟩⟩
        refine ⟨_, _, rfl, rfl, f1', F, _, _, rfl, rfl, hF8, hlen, ?_⟩
        rw [show SX.S (cs.set fa (nmC ff i)) ++ Str.empty = SX.S (nmL cs fa ff lng i) from f2']
        exact done _ rfl
      · obtain ⟨f1', f2'⟩ := fin lng (by rw [if_pos z])
        refine ⟨SX.S lng, _, rfl, rfl, .inr ⟨by omega, ?_⟩⟩
        refine ⟨_, _, rfl, rfl, f1', F, _, _, rfl, rfl, hF8, hlen, ?_⟩
        rw [f2']
        exact done _ rfl
    · obtain ⟨⟨kk, rfl⟩, e7, dk9, _, hF⟩ := p
      refine ⟨_, rfl, q F H7 _ e7 dk9 nFH hF ?_ ?_ fun z hz => ?_⟩
      · rw [List.length_map, List.length_range]
        exact Int.toNat_natCast _
      · refine List.pairwise_map.mpr ((List.pairwise_lt_range).imp_of_mem fun {i j} hi hj hij => nmL_ne lcs hij ?_)
        have := List.mem_range.mp hj
        rw [Int.toNat_natCast] at this
        omega
      · obtain ⟨k, _, rfl⟩ := List.mem_map.mp hz
        exact nmL_ok (by omega) (by omega) hl hl1 hl2
end
end K34
set_option Elab.async false
set_option linter.all false
set_option maxRecDepth 100000
set_option maxHeartbeats 4000000
/-! K34D3: marks, weights, days. -/
namespace K34
open PySem PySem.Spec PyProof.Rows L2
/-! ### figures of a number -/
theorem hexNum_foldl (l : List Nat) : ∀ a : Nat, l.foldl (fun a c => a * 16 + Hx.hv c) a = a * 16 ^ l.length + l.foldl (fun a c => a * 16 + Hx.hv c) 0 := by
  induction l with
  | nil => intro a; simp
  | cons c l ih =>
    intro a
    rw [List.foldl_cons, ih, List.foldl_cons, ih (0 * 16 + Hx.hv c), List.length_cons, Nat.pow_succ]
    generalize 16 ^ l.length = q
    generalize l.foldl (fun a c => a * 16 + Hx.hv c) 0 = r
    grind
theorem hexNum_cons (c : Nat) (l : List Nat) : Hx.hexNum (c :: l) = Hx.hv c * 16 ^ l.length + Hx.hexNum l := by
  show (c :: l).foldl (fun a c => a * 16 + Hx.hv c) 0 = _
  rw [List.foldl_cons, hexNum_foldl]
  unfold Hx.hexNum
  simp
def hexD (n : Nat) : Nat := hexC.getD n 0
theorem hexD_ok : ∀ n, n < 16 → hexD n ∈ hexC ∧ Hx.hv (hexD n) = n ∧ (hexD n = 48 → n = 0) := by decide
theorem hex_at {i : Int} (h0 : 0 ≤ i) (h1 : i < 16) : atI ("0123456789abcdef" : Str).cps.toList i = some (hexD i.toNat) := by
  rw [hexC_eq]
  obtain ⟨n, rfl⟩ := Int.eq_ofNat_of_zero_le h0
  refine atI_nat (j := n) ?_
  have hl : n < hexC.length := by
    show n < 16
    omega
  unfold hexD
  rw [Int.toNat_natCast, List.getD_eq_getElem?_getD, List.getElem?_eq_getElem hl]
  rfl
/-- behind some turns: m is left, f is written -/
structure SixI (n m : Nat) (f : List Nat) : Prop where
  sum : m * 16 ^ f.length + Hx.hexNum f = n
  all : ∀ c ∈ f, c ∈ hexC
  len : f.length ≤ 6
  lead : m = 0 → f = [] ∨ f = [48] ∨ ∃ c r, f = c :: r ∧ c ≠ 48
  nil : f = [] → m = n
theorem six_turn {n m : Nat} {f : List Nat} (h : SixI n m f) (hn : n < 16 ^ 6) (go : 0 < m ∨ f = []) : SixI n (m / 16) (hexD (m % 16) :: f) := by
  obtain ⟨d1, d2, d3⟩ := hexD_ok (m % 16) (Nat.mod_lt _ (by decide))
  have hs := h.sum
  refine ⟨?_, fun c hc => ?_, ?_, fun z => .inr ?_, fun z => by cases z⟩
  · rw [hexNum_cons, d2, List.length_cons, Nat.pow_succ, ← hs]
    have e := Nat.div_add_mod m 16
    generalize 16 ^ f.length = p at *
    have : m / 16 * (p * 16) + m % 16 * p = m * p := by
      rw [show m / 16 * (p * 16) = 16 * (m / 16) * p by rw [Nat.mul_comm p 16, ← Nat.mul_assoc, Nat.mul_comm (m / 16)], ← Nat.add_mul, e]
    omega
  · rcases List.mem_cons.mp hc with rfl | hc
    · exact d1
    · exact h.all c hc
  · rw [List.length_cons]
    rcases go with g | g
    · have h6 : f.length < 6 := by
        by_cases z : f.length < 6
        · exact z
        · have e : f.length = 6 := by have := h.len; omega
          rw [e] at hs
          have : 1 * 16 ^ 6 ≤ m * 16 ^ 6 := Nat.mul_le_mul_right _ g
          omega
      omega
    · rw [g]
      decide
  · have m16 : m < 16 := by omega
    by_cases m0 : m = 0
    · rcases go with g | g
      · omega
      · left
        rw [g, m0]
        rfl
    · right
      exact ⟨_, f, rfl, fun z => m0 (by have := d3 z; omega)⟩
theorem six_end {n : Nat} {f : List Nat} (h : SixI n 0 f) (ne : f ≠ []) : FigOk f ∧ Hx.hexNum f = n := by
  have hs := h.sum
  refine ⟨⟨ne, h.len, h.all, ?_⟩, by omega⟩
  rcases h.lead rfl with z | z | z
  · exact absurd z ne
  · exact .inl z
  · exact .inr z
section
variable {P : Program} {w : World} {K : PySem.W.Frag} {mg : Str → Option Value} {base : Heap}
def spSix : Sp := fun vs H Q _ => ∃ n : Nat, vs = [.int n] ∧ n < 16 ^ 6 ∧ ∀ f, FigOk f → Hx.hexNum f = n → Q (.str (SX.S f)) H
theorem scSix : FnScope ["_law_number", "_law_found"] ["_law_number"] (defScope (top 50)) := ⟨rfl, rfl, rfl, by decide +kernel, rfl, by decide +kernel, by decide +kernel⟩
def muSix (σ : L2.St) (H : Hp) : Nat := match σ[0]?, σ[1]? with
  | some (some (V.int m)), some (some (V.str z)) => 2 * m.toNat + (if z.length = 0 then 1 else 0)
  | _, _ => 0
theorem ok_six (Z : Wd K mg) : C8.Cal P w K mg base 1 "_law_sixteens" spSix [] := by
  refine cal (st := top 50) Z.d__law_sixteens Z.g__law_sixteens scSix (fun vs H Q E h => ?_) (fun _ _ _ _ _ _ us hl => match us, hl with | [_], _ => rfl) fun cdv A outer s H vs Q E hr h => ?_
  · obtain ⟨n, rfl, _⟩ := h
    rfl
  · obtain ⟨n, rfl, hn, q⟩ := h
    refine ⟨_, PSs.nox (pss_cons (ps_set (i := 1) scSix.nd rfl (.inl rfl) pe_str)
      (pss_cons (ps_while PassesOwn.never (PW.pt (pw_or (pt_cmpR op_gt (pv 0) pe_int (nomark _)) (pw_or1 (pt_cmpR op_eq (pv 1) pe_str (nomark _)))))
        (pss_cons (ps_set (i := 1) scSix.nd rfl (.inl rfl) (pe_op op_add_str (pe_ix ix_str pe_str (pe_op op_mod (pv 0) pe_int) (fun _ _ => rfl)) (pv 1)))
        (pss_one (ps_set (i := 0) scSix.nd rfl (.inl rfl) (pe_op op_fdivW (pv 0) pe_int)))))
      (pss_one (ps_ret (pv 1))))), ?_⟩
    have sl : ("0123456789abcdef" : Str).length ≤ sizeLine := by
      rw [sizeLine_eq]
      decide +kernel
    refine while_by (fun σ H1 => H1 = H ∧ ∃ (m : Nat) (f : List Nat), σ = [some (.int m), some (.str (SX.S f))] ∧ SixI n m f) muSix ⟨rfl, n, [], rfl, ⟨by simp [Hx.hexNum], (fun c hc => by cases hc), by decide, fun _ => .inl rfl, fun _ => rfl⟩⟩ ?_ ?_
    · rintro σ H1 ⟨rfl, m, f, rfl, I⟩
      have turn : (0 < m ∨ f = []) → ∀ D : Ends, (∀ σ', ((∃ (m' : Nat) (f' : List Nat), σ' = [some (.int m'), some (.str (SX.S f'))] ∧ SixI n m' f') ∧ muSix σ' H1 < muSix [some (.int m), some (.str (SX.S f))] H1) → D.nx σ' H1) → D.nx [some (.int (m / 16 : Nat)), some (.str (SX.S (hexD (m % 16) :: f)))] H1 := fun go D k => by
        refine k _ ⟨⟨_, _, rfl, six_turn I hn go⟩, ?_⟩
        show 2 * ((m / 16 : Nat) : Int).toNat + (if (SX.S (hexD (m % 16) :: f)).length = 0 then 1 else 0) < 2 * ((m : Nat) : Int).toNat + (if (SX.S f).length = 0 then 1 else 0)
        rw [SX.S_len, SX.S_len, List.length_cons, if_neg (by omega), Int.toNat_natCast, Int.toNat_natCast]
        rcases go with g | g
        · omega
        · rw [g]
          show 2 * (m / 16) + 0 < 2 * m + 1
          omega
      have e16 : ((m : Int) % 16).toNat = m % 16 := by omega
      have ed : (m : Int) / 16 = ((m / 16 : Nat) : Int) := by omega
      have len6 := I.len
      by_cases hm : (m : Int) > 0
      · refine ⟨_, rfl, _, _, rfl, rfl, _, rfl, ?_⟩
        rw [decide_eq_true hm]
        refine iteT ⟨_, rfl, _, _, rfl, rfl, (by show (0 : Int) < 16; decide), _, _, _, rfl, rfl, sl, hex_at (Int.emod_nonneg _ (by decide)) (Int.emod_lt_of_pos _ (by decide)), _, rfl, _, _, rfl, rfl, ?_, ?_⟩
        · show 1 + (SX.S f).length ≤ sizeLine
          rw [SX.S_len, sizeLine_eq]
          omega
        refine ⟨_, rfl, _, _, rfl, rfl, wide_div (by decide) (show (16 : Int).natAbs < 2 ^ 5 by decide) (by decide) (by decide), ?_⟩
        rw [show (⟨#[hexD ((m : Int) % 16).toNat]⟩ : Str) ++ SX.S f = SX.S (hexD (m % 16) :: f) by rw [e16]; exact SX.S_cat [hexD (m % 16)] f]
        have z := turn (.inl (by omega)) { nx := fun σ' H' => (H' = H1 ∧ ∃ (m : Nat) (f : List Nat), σ' = [some (.int m), some (.str (SX.S f))] ∧ SixI n m f) ∧ muSix σ' H' < muSix [some (.int m), some (.str (SX.S f))] H1, rt := fun _ _ => True } fun σ' h => ⟨⟨rfl, h.1⟩, h.2⟩
        rw [← ed] at z
        exact z
      · have m0 : m = 0 := by omega
        refine ⟨_, rfl, _, _, rfl, rfl, _, rfl, ?_⟩
        rw [decide_eq_false hm]
        refine iteF ⟨_, rfl, rfl, _, rfl, ?_⟩
        by_cases hf : f = []
        · rw [decide_eq_true (show V.str (SX.S f) = V.str "" by rw [hf]; rfl)]
          refine iteT ⟨_, rfl, _, _, rfl, rfl, (by show (0 : Int) < 16; decide), _, _, _, rfl, rfl, sl, hex_at (Int.emod_nonneg _ (by decide)) (Int.emod_lt_of_pos _ (by decide)), _, rfl, _, _, rfl, rfl, ?_, ?_⟩
          · show 1 + (SX.S f).length ≤ sizeLine
            rw [SX.S_len, sizeLine_eq]
            omega
          refine ⟨_, rfl, _, _, rfl, rfl, wide_div (by decide) (show (16 : Int).natAbs < 2 ^ 5 by decide) (by decide) (by decide), ?_⟩
          rw [show (⟨#[hexD ((m : Int) % 16).toNat]⟩ : Str) ++ SX.S f = SX.S (hexD (m % 16) :: f) by rw [e16]; exact SX.S_cat [hexD (m % 16)] f]
          have z := turn (.inr hf) { nx := fun σ' H' => (H' = H1 ∧ ∃ (m : Nat) (f : List Nat), σ' = [some (.int m), some (.str (SX.S f))] ∧ SixI n m f) ∧ muSix σ' H' < muSix [some (.int m), some (.str (SX.S f))] H1, rt := fun _ _ => True } fun σ' h => ⟨⟨rfl, h.1⟩, h.2⟩
          rw [← ed] at z
          exact z
        · rw [decide_eq_false (show ¬ V.str (SX.S f) = V.str "" from fun z => hf (by injection z with z; exact SX.S_inj (z.trans (show ("" : Str) = SX.S [] from rfl))))]
          refine iteF ?_
          subst m0
          obtain ⟨a, b⟩ := six_end I hf
          exact ⟨_, rfl, q f a b⟩
    · rintro σ H1 Q1 Q2 hq ⟨v, e, x, y, e1, e2, k, ek, z⟩
      refine ⟨v, e, x, y, e1, e2, k, ek, ?_⟩
      by_cases hk : k = true
      · rw [if_pos hk] at z ⊢
        exact hq _ _ z
      · rw [if_neg hk] at z ⊢
        obtain ⟨v2, e3, e4, k2, ek2, z⟩ := z
        exact ⟨v2, e3, e4, k2, ek2, hq _ _ z⟩
end
end K34
set_option Elab.async false
set_option linter.all false
set_option maxRecDepth 100000
set_option maxHeartbeats 4000000
/-! K34D4: marks, quotients, weights, days. -/
namespace K34
open PySem PySem.Spec PyProof.Rows L2
theorem castE {X : Cx} {K : PySem.W.Frag} {e : Expr} {t : PySem.W.Frag → TE} (h : X.K = K) (p : PE X e (t X.K)) : PE X e (t K) := h ▸ p
theorem lenK {X : Cx} {K : PySem.W.Frag} (h : X.K = K) : CallR X (.builtin "len") (fun xs H Q => ∃ p ys, xs = [.ref p] ∧ (SqL K H p ys ∨ SqT K H p ys) ∧ Q (.int ys.length) H) := h ▸ call_len_seq
section
variable {P : Program} {w : World} {K : PySem.W.Frag} {mg : Str → Option Value} {base : Heap}
theorem EB.none {d b : Addr} {N : Nat} {H H' : Hp} (e : EB d H H') (dk : DeckAt H d N) (dk' : ∃ M, DeckAt H' d M) (h : H' b = none) : H b = none := by
  cases z : H b with
  | none => rfl
  | some o =>
    obtain ⟨M, dk'⟩ := dk'
    rw [e b o (Ne.symm (dk'.new h)) z] at h
    cases h
def spMarks : Sp := fun vs H Q _ => ∃ (d : Addr) (many N : Nat), vs = [.ref d, .int many] ∧ many ≤ 12 ∧ DeckAt H d N ∧ N ≤ 2 ^ 39 ∧
  ∀ p H' (fs : List (List Nat)), EB d H H' → DeckAt H' d (N + 16) → H p = none → H' p = some (.lst (fs.map fun f => V.str (mk f))) → fs.length = many → fs.Nodup → (∀ f ∈ fs, FigOk f) → Q (.ref p) H'
abbrev nsM : List Str := ["_law_deck_here", "_law_many", "_law_first", "_law_step", "_law_left", "_law_k"]
theorem scMarks : FnScope nsM ["_law_deck_here", "_law_many"] (defScope (top 51)) := ⟨rfl, rfl, rfl, by decide +kernel, rfl, by decide +kernel, by decide +kernel⟩
theorem six_nodup {fs : List (List Nat)} {a s n : Nat} (hs : 0 < s) (h : fs.map Hx.hexNum = (List.range n).map fun k => a + s * k) : fs.Nodup := by
  have h1 : (fs.map Hx.hexNum).Nodup := by
    rw [h]
    refine List.pairwise_map.mpr (List.pairwise_lt_range.imp fun {i j} hij z => ?_)
    have : s * i < s * j := Nat.mul_lt_mul_of_pos_left hij hs
    omega
  exact (List.pairwise_map.mp h1).imp fun {x y} hne e => hne (by rw [e])
theorem eraseIdx_perm {α : Type} {l : List α} {k : Nat} {y : α} (h : l[k]? = some y) : (y :: l.eraseIdx k).Perm l := by
  induction l generalizing k with
  | nil => simp at h
  | cons x l ih =>
    cases k with
    | zero =>
      simp at h
      subst h
      exact List.Perm.refl _
    | succ k =>
      have h' : l[k]? = some y := by simpa using h
      rw [List.eraseIdx_cons_succ]
      exact (List.Perm.swap x y _).trans ((ih h').cons x)
theorem erase_map {α β : Type} (g : α → β) : ∀ (l : List α) (k : Nat), (l.map g).eraseIdx k = (l.eraseIdx k).map g
  | [], _ => rfl
  | _ :: _, 0 => rfl
  | x :: l, k + 1 => by
    rw [List.map_cons, List.eraseIdx_cons_succ, List.eraseIdx_cons_succ, List.map_cons, erase_map g l k]
theorem ok_marks (Z : Wd K mg) : C8.Cal P w K mg base 2 "_law_marks" spMarks [] := by
  refine cal (st := top 51) Z.d__law_marks Z.g__law_marks scMarks (fun vs H Q E h => ?_) (fun _ _ _ _ _ _ us hl => match us, hl with | [_, _], _ => rfl) fun cdv A outer s H vs Q E hr h => ?_
  · obtain ⟨d, many, N, rfl, _⟩ := h
    rfl
  · obtain ⟨d, many, N, rfl, hm, dk, hN, q⟩ := h
    have cD := ok_draw (P := P) (w := w) (base := base) Z
    have cS := ok_six (P := P) (w := w) (base := base) Z
    refine ⟨_, PSs.nox (pss_cons (ps_set (i := 2) scMarks.nd rfl (.inr rfl) (pe_op op_add (pe_ix ix_list (pe_lst (pa_cons pe_int (pa_cons pe_int (pa_cons pe_int (pa_cons (pe_op op_pow pe_int pe_int) pa_nil))))) (C8.pe_c cD hr (by decide) (by rfl) (pa_cons (pv 0) (pa_cons pe_int pa_nil))) (fun _ _ => rfl)) (C8.pe_c cD hr (by decide) (by rfl) (pa_cons (pv 0) (pa_cons pe_int pa_nil)))))
      (pss_cons (ps_set (i := 3) scMarks.nd rfl (.inr rfl) (pe_ix ix_list (pe_lst (pa_cons pe_int (pa_cons pe_int (pa_cons pe_int (pa_cons pe_int pa_nil))))) (C8.pe_c cD hr (by decide) (by rfl) (pa_cons (pv 0) (pa_cons pe_int pa_nil))) (fun _ _ => rfl)))
      (pss_cons (ps_set (i := 4) scMarks.nd rfl (.inr rfl) (pe_lc (own := [("_law_k", 5)]) (g := gName 5) (tt := tYes) rfl scMarks.nd (pi_range1 (by rfl) Z.f_range (pa_cons (pv 1) pa_nil)) (blkOk_by (own := [("_law_k", 5)]) (N := nsM) (sc := defScope (top 51)) (by decide +kernel))
        (fun _ _ _ _ _ => pg_name (i := 5) scMarks.nd rfl (Or.inl rfl)) (fun _ _ _ _ _ => pts_nil) (fun _ _ _ _ _ => pe_op op_add_str pe_str (C8.pe_c cS hr (by decide) (by rfl) (pa_cons (pe_op op_add (pv 2) (pe_op op_mulW (pv 3) (pv 5))) pa_nil)))))
      (pss_one (ps_ret (pe_lc (own := [("_law_k", 5)]) (g := gName 5) (tt := tYes) (te := tBM K "list" rPopAt (tVar 4) (tCons (tCall spDraw [] C8.E0 (tCons (tVar 0) (tCons (tCB (fun xs H Q => ∃ p ys, xs = [.ref p] ∧ (SqL K H p ys ∨ SqT K H p ys) ∧ Q (.int ys.length) H) (tCons (tVar 4) tNil)) tNil))) tNil)) rfl scMarks.nd (pi_range1 (by rfl) Z.f_range (pa_cons (pv 1) pa_nil)) (blkOk_by (own := [("_law_k", 5)]) (N := nsM) (sc := defScope (top 51)) (by decide +kernel))
        (fun _ _ _ _ _ => pg_name (i := 5) scMarks.nd rfl (Or.inl rfl)) (fun _ _ _ _ _ => pts_nil)
        (fun _ _ _ _ _ => pe_bm PySem.F.plainAttrs_list PySem.F.slot_list_pop PySem.F.type_list_pop mt_popAt (pv 4) (pa_cons (C8.pe_c cD hr (by decide) (by rfl) (pa_cons (pv 0) (pa_cons (pe_callB (lenK (K := K) rfl) (by rfl) Z.f_len PySem.boot_len (pa_cons (pv 4) pa_nil)) pa_nil))) pa_nil)))))))), ?_⟩
    have e39 : (2 : Nat) ^ 39 = 549755813888 := by decide
    have e40 : (2 : Nat) ^ 40 = 1099511627776 := by decide
    refine ⟨_, _, rfl, rfl, ⟨by decide, by decide, by decide⟩, (by show 4 ≤ sizeLine; rw [sizeLine_eq]; omega), fun L nL => ?_⟩
    have nLd := dk.new nL
    refine ⟨_, rfl, d, 4, N, rfl, by decide, by decide, dk.upd nLd, by omega, fun r1 H1 r10 r11 e1 dk1 => ?_⟩
    have hL1 := e1 _ _ (Ne.symm nLd) upd_same
    obtain ⟨a0, ha0, ha1⟩ : ∃ a0 : Nat, atI [V.int 0, .int 9, .int 240, .int (10 ^ (6 : Int).toNat)] r1 = some (.int a0) ∧ a0 ≤ 1000000 := by
      rcases (show r1 = 0 ∨ r1 = 1 ∨ r1 = 2 ∨ r1 = 3 by omega) with rfl | rfl | rfl | rfl
      · exact ⟨0, atI_nat (j := 0) rfl, by decide⟩
      · exact ⟨9, atI_nat (j := 1) rfl, by decide⟩
      · exact ⟨240, atI_nat (j := 2) rfl, by decide⟩
      · exact ⟨1000000, atI_nat (j := 3) rfl, by decide⟩
    refine ⟨L, _, r1, _, rfl, rfl, SqL.of hL1, ha0, ?_⟩
    have eH1 : EB d H H1 := (EB.of (Ext.upd nL)).trans e1
    refine ⟨_, rfl, d, 9, N + 1, rfl, by decide, by decide, dk1, by omega, fun r2 H2 r20 r21 e2 dk2 => ?_⟩
    refine ⟨_, _, rfl, rfl, (by show 4 ≤ sizeLine; rw [sizeLine_eq]; omega), fun L2' nL2 => ?_⟩
    have nL2d := dk2.new nL2
    refine ⟨_, rfl, d, 4, N + 1 + 1, rfl, by decide, by decide, dk2.upd nL2d, by omega, fun r3 H3 r30 r31 e3 dk3 => ?_⟩
    have hL3 := e3 _ _ (Ne.symm nL2d) upd_same
    obtain ⟨s0, hs0, hs1, hs2⟩ : ∃ s0 : Nat, atI [V.int 1, .int 15, .int 16, .int 255] r3 = some (.int s0) ∧ 1 ≤ s0 ∧ s0 ≤ 255 := by
      rcases (show r3 = 0 ∨ r3 = 1 ∨ r3 = 2 ∨ r3 = 3 by omega) with rfl | rfl | rfl | rfl
      · exact ⟨1, atI_nat (j := 0) rfl, by decide, by decide⟩
      · exact ⟨15, atI_nat (j := 1) rfl, by decide, by decide⟩
      · exact ⟨16, atI_nat (j := 2) rfl, by decide, by decide⟩
      · exact ⟨255, atI_nat (j := 3) rfl, by decide, by decide⟩
    refine ⟨L2', _, r3, _, rfl, rfl, SqL.of hL3, hs0, ?_⟩
    have eH3 : EB d H H3 := ((eH1.trans e2).trans (EB.of (Ext.upd nL2))).trans e3
    obtain ⟨b0, rfl⟩ := Int.eq_ofNat_of_zero_le r20
    refine ⟨_, rfl, (many : Nat), rfl, by omega, by omega, fun F nF => ?_⟩
    have e166 : (16 : Nat) ^ 6 = 16777216 := by decide
    refine lc_it (walk_range (lo := 0) (n := ((many : Nat) : Int).toNat)) (fun i H4 => ∃ fs : List (List Nat), Ext H3 H4 ∧ H4 F = some (.lst (fs.map fun f => V.str (mk f))) ∧ fs.map Hx.hexNum = (List.range i).map (fun k => (a0 + b0) + s0 * k) ∧ ∀ f ∈ fs, FigOk f) ⟨[], Ext.upd nF, upd_same, rfl, fun f hf => by cases hf⟩ (fun _ _ _ _ => trivial) (fun i x H4 H5 hi p y => ?_) fun H4 p => ?_
    · obtain ⟨rfl, rfl⟩ := y
      obtain ⟨fs, e4, hF, hx, ok⟩ := p
      have hi' : i < many := by simpa using hi
      have lfs : fs.length = i := by
        have := congrArg List.length hx
        rw [List.length_map, List.length_map, List.length_range] at this
        exact this
      have ev : (a0 : Int) + (b0 : Int) + (s0 : Int) * (0 + (i : Int)) = (((a0 + b0) + s0 * i : Nat) : Int) := by
        rw [Int.zero_add]
        omega
      have mi : s0 * i ≤ 255 * 12 := Nat.mul_le_mul hs2 (by omega)
      refine ⟨rfl, _, rfl, _, rfl, _, rfl, _, _, rfl, rfl, wide_mul (show (s0 : Int).natAbs < 2 ^ 8 by omega) (show (0 + (i : Int)).natAbs < 2 ^ 4 by omega) (by decide) (by decide) (by decide), _, _, rfl, rfl, (a0 + b0) + s0 * i, ?_, by omega, fun f fo fx => ?_⟩
      · show [V.int ((a0 : Int) + (b0 : Int) + (s0 : Int) * (0 + (i : Int)))] = _
        rw [ev]
      refine ⟨_, _, rfl, rfl, ?_, _, hF, ?_, fs ++ [f], Ext.put e4 nF, ?_, ?_, ?_⟩
      · have z1 : (SX.S f).length = f.length := SX.S_len f
        have z2 : ("c" : Str).length = 1 := rfl
        have := fo.hi
        rw [sizeLine_eq]
        omega
      · rw [List.length_map, lfs, sizeLine_eq]
        omega
      · rw [upd_same, List.map_append]
        rw [show ("c" : Str) ++ SX.S f = mk f from SX.S_cat [99] f]
        rfl
      · rw [List.map_append, hx, List.range_succ, List.map_append]
        show _ ++ [Hx.hexNum f] = _ ++ [_]
        rw [fx]
      · intro f' hf'
        rcases List.mem_append.mp hf' with z | z
        · exact ok f' z
        · rw [List.mem_singleton.mp z]
          exact fo
    obtain ⟨fs, e4, hF, hx, ok⟩ := p
    have lfs : fs.length = many := by
      have := congrArg List.length hx
      rw [List.length_map, List.length_map, List.length_range, Int.toNat_natCast] at this
      exact this
    have nd := six_nodup (by omega) hx
    have eH4 : EB d H H4 := eH3.trans (EB.of e4)
    have dk4 := dk3.ext e4
    have nFH : H F = none := EB.none eH3 dk ⟨_, dk3⟩ nF
    refine ⟨_, rfl, (many : Nat), rfl, by omega, by omega, fun G nG => ?_⟩
    have nGF : F ≠ G := ne_of_none hF nG
    have nGd := dk4.new nG
    have nGH : H G = none := EB.none eH4 dk ⟨_, dk4⟩ nG
    have nFd : d ≠ F := fun z => by
      obtain ⟨x, y, z', h1, _⟩ := dk
      rw [z, nFH] at h1
      cases h1
    refine lc_it (walk_range (lo := 0) (n := ((many : Nat) : Int).toNat)) (fun i H5 => ∃ out rest : List (List Nat), EB d H H5 ∧ DeckAt H5 d (N + 3 + i) ∧ H5 F = some (.lst (rest.map fun f => V.str (mk f))) ∧ H5 G = some (.lst (out.map fun f => V.str (mk f))) ∧ (out ++ rest).Perm fs ∧ out.length = i) ⟨[], fs, eH4.put nGH, (dk4.mono (by omega)).upd nGd, (upd_ne nGF).trans hF, upd_same, List.Perm.refl _, rfl⟩ (fun _ _ _ _ => trivial) (fun i x H5 H6 hi p y => ?_) fun H5 p => ?_
    · obtain ⟨rfl, rfl⟩ := y
      obtain ⟨out, rest, e5, dk5, hF5, hG5, pm, lo⟩ := p
      have hi' : i < many := by simpa using hi
      have lr : rest.length + i = many := by
        have := pm.length_eq
        rw [List.length_append, lo, lfs] at this
        omega
      refine ⟨rfl, _, rfl, .inl ⟨rfl, _, SqL.of hF5⟩, _, rfl, _, rfl, F, _, rfl, .inl (SqL.of hF5), d, _, N + 3 + i, rfl, ?_, ?_, dk5, by omega, fun r H7 h0 h1 e7 dk7 => ?_⟩
      · rw [List.length_map]
        omega
      · rw [List.length_map]
        omega
      rw [List.length_map] at h1
      obtain ⟨k, rfl⟩ := Int.eq_ofNat_of_zero_le h0
      have hk : k < rest.length := by omega
      have hF7 := e7 _ _ (Ne.symm nFd) hF5
      have hG7 := e7 _ _ (Ne.symm nGd) hG5
      refine ⟨F, _, k, k, V.str (mk rest[k]), rfl, rfl, hF7, by omega, by omega, ?_, ?_, ?_⟩
      · unfold seqIndex?
        rw [List.length_map]
        simp [hk, show ¬ (k : Int) < 0 by omega]
      · rw [List.getElem?_map, List.getElem?_eq_getElem hk]
        rfl
      · have hG8 := (upd_ne (o := .lst ((rest.map fun f => V.str (mk f)).eraseIdx k)) (H := H7) (Ne.symm nGF)).trans hG7
        have pe := eraseIdx_perm (List.getElem?_eq_getElem hk)
        refine ⟨_, hG8, ?_, out ++ [rest[k]], rest.eraseIdx k, ((e5.trans e7).put nFH).put nGH, (dk7.upd nFd).upd nGd, ?_, ?_, ?_, ?_⟩
        · rw [List.length_map, lo, sizeLine_eq]
          omega
        · rw [upd_ne nGF, upd_same, erase_map]
        · rw [upd_same, List.map_append]
          rfl
        · rw [List.append_assoc]
          exact (List.Perm.append_left out pe).trans pm
        · rw [List.length_append, lo]
          rfl
    · obtain ⟨out, rest, e5, dk5, hF5, hG5, pm, lo⟩ := p
      rw [Int.toNat_natCast] at lo dk5
      have lr : rest = [] := by
        have := pm.length_eq
        rw [List.length_append, lo, lfs] at this
        exact List.eq_nil_of_length_eq_zero (by omega)
      rw [lr, List.append_nil] at pm
      exact q G H5 out e5 (dk5.mono (by omega)) nGH hG5 lo (pm.nodup_iff.mpr nd) fun f hf => ok f (pm.mem_iff.mp hf)
/-! ### _law_lowest -/
def spLow : Sp := fun vs H Q _ => ∃ t b : Int, vs = [.int t, .int b] ∧ 1 ≤ t ∧ t ≤ 1000000 ∧ 1 ≤ b ∧ b ≤ 1000000 ∧ ∀ p H' (t' b' : Int), Ext H H' → H p = none → H' p = some (.tup [.int t', .int b']) → 1 ≤ t' → t' ≤ 1000000 → 1 ≤ b' → b' ≤ 1000000 → Q (.ref p) H'
theorem scLow : FnScope ["_law_top", "_law_bottom", "_law_one", "_law_other"] ["_law_top", "_law_bottom"] (defScope (top 52)) := ⟨rfl, rfl, rfl, by decide +kernel, rfl, by decide +kernel, by decide +kernel⟩
def muLow (σ : L2.St) (H : Hp) : Nat := match σ[3]? with
  | some (some (V.int b)) => b.natAbs
  | _ => 0
theorem ediv_rng {t g : Int} (h1 : 1 ≤ g) (h2 : g ≤ t) (h3 : t ≤ 1000000) : 1 ≤ t / g ∧ t / g ≤ 1000000 := by
  refine ⟨Int.le_ediv_of_mul_le (by omega) (by omega), ?_⟩
  have := Int.ediv_le_self g (show 0 ≤ t by omega)
  omega
theorem ok_low (Z : Wd K mg) : C8.Cal P w K mg base 1 "_law_lowest" spLow [] := by
  refine cal (st := top 52) Z.d__law_lowest Z.g__law_lowest scLow (fun vs H Q E h => ?_) (fun _ _ _ _ _ _ us hl => match us, hl with | [_, _], _ => rfl) fun cdv A outer s H vs Q E hr h => ?_
  · obtain ⟨t, b, rfl, _⟩ := h
    rfl
  · obtain ⟨t, b, rfl, t1, t2, b1, b2, q⟩ := h
    refine ⟨_, PSs.nox (pss_cons (ps_par (by rfl) scLow.nd (i := 2) (j := 3) rfl rfl (by decide) rfl rfl (pa_cons (pv 0) (pa_cons (pv 1) pa_nil)) (by rfl))
      (pss_cons (ps_while PassesOwn.never (pt_cmpR op_gt (pv 3) pe_int (nomark _)) (pss_one (ps_par (by rfl) scLow.nd (i := 2) (j := 3) rfl rfl (by decide) rfl rfl (pa_cons (pv 3) (pa_cons (pe_op op_modN (pv 2) (pv 3)) pa_nil)) (by rfl))))
      (pss_one (ps_ret (pe_tup (pa_cons (pe_op op_fdivW (pv 0) (pv 2)) (pa_cons (pe_op op_fdivW (pv 1) (pv 2)) pa_nil))))))), ?_⟩
    refine ⟨_, rfl, _, rfl, _, _, rfl, ?_⟩
    refine while_by (fun σ H1 => H1 = H ∧ ∃ x y : Int, σ = [some (.int t), some (.int b), some (.int x), some (.int y)] ∧ 0 ≤ x ∧ 0 ≤ y ∧ Int.gcd x y = Int.gcd t b) muLow ⟨rfl, t, b, rfl, by omega, by omega, rfl⟩ ?_ ?_
    · rintro σ H1 ⟨rfl, x, y, rfl, h1, h2, h3⟩
      refine ⟨_, rfl, _, _, rfl, rfl, _, rfl, ?_⟩
      by_cases z : y > 0
      · rw [decide_eq_true z]
        obtain ⟨g1, g2, g3⟩ := gcd_step h1 h2 (show y ≠ 0 by omega)
        exact iteT ⟨_, rfl, _, rfl, _, rfl, _, _, rfl, rfl, (show y ≠ 0 by omega), _, _, rfl, ⟨rfl, _, _, rfl, h2, g1, g3.trans h3⟩, g2⟩
      · rw [decide_eq_false z]
        have y0 : y = 0 := by omega
        subst y0
        have e : ((Int.gcd t b : Nat) : Int) = x := by
          rw [← h3, Int.gcd_zero_right]
          omega
        have g1 : Int.gcd t b ≤ t.natAbs := Nat.le_of_dvd (by omega) (Int.gcd_dvd_natAbs_left t b)
        have g2 : Int.gcd t b ≤ b.natAbs := Nat.le_of_dvd (by omega) (Int.gcd_dvd_natAbs_right t b)
        have g3 : 0 < Int.gcd t b := Int.gcd_pos_of_ne_zero_right t (by omega)
        have zx : x.natAbs < 2 ^ 20 := by
          have e20 : (2 : Nat) ^ 20 = 1048576 := by decide
          omega
        obtain ⟨q1, q2⟩ := ediv_rng (show 1 ≤ x by omega) (show x ≤ t by omega) t2
        obtain ⟨q3, q4⟩ := ediv_rng (show 1 ≤ x by omega) (show x ≤ b by omega) b2
        refine iteF ⟨_, rfl, _, rfl, _, _, rfl, rfl, wide_div (by omega) zx (by decide) (by decide), _, rfl, _, rfl, _, _, rfl, rfl, wide_div (by omega) zx (by decide) (by decide), (by show 2 ≤ sizeLine; rw [sizeLine_eq]; omega), fun T nT => ?_⟩
        exact q T _ _ _ (Ext.upd nT) nT upd_same q1 q2 q3 q4
    · rintro σ H1 Q1 Q2 hq ⟨v, e, x, y, e1, e2, k, ek, z⟩
      exact ⟨v, e, x, y, e1, e2, k, ek, hq _ _ z⟩
end
end K34
set_option Elab.async false
set_option linter.all false
set_option maxRecDepth 100000
set_option maxHeartbeats 4000000
/-! K34D5: weights, days, casks as they are told. -/
namespace K34
open PySem PySem.Spec PyProof.Rows L2
section
variable {P : Program} {w : World} {K : PySem.W.Frag} {mg : Str → Option Value} {base : Heap}
def spWt : Sp := fun vs H Q _ => ∃ (d : Addr) (far : Int) (N : Nat), vs = [.ref d, .int far] ∧ (far = 0 ∨ far = 1) ∧ DeckAt H d N ∧ N ≤ 2 ^ 39 ∧
  ∀ p H' (t b : Int), EB d H H' → DeckAt H' d (N + 4) → H p = none → H' p = some (.tup [.int t, .int b]) → 1 ≤ t → t ≤ 1000000 → 1 ≤ b → b ≤ 1000000 → Q (.ref p) H'
theorem scWt : FnScope ["_law_deck_here", "_law_far", "_law_way"] ["_law_deck_here", "_law_far"] (defScope (top 54)) := ⟨rfl, rfl, rfl, by decide +kernel, rfl, by decide +kernel, by decide +kernel⟩
theorem ok_wt (Z : Wd K mg) : C8.Cal P w K mg base 2 "_law_weight" spWt [] := by
  refine cal (st := top 54) Z.d__law_weight Z.g__law_weight scWt (fun vs H Q E h => ?_) (fun _ _ _ _ _ _ us hl => match us, hl with | [_, _], _ => rfl) fun cdv A outer s H vs Q E hr h => ?_
  · obtain ⟨d, far, N, rfl, _⟩ := h
    rfl
  · obtain ⟨d, far, N, rfl, hf, dk, hN, q⟩ := h
    have cD := ok_draw (P := P) (w := w) (base := base) Z
    have cL := ok_low (P := P) (w := w) (base := base) Z
    refine ⟨_, PSs.nox (pss_cons (ps_set (i := 2) scWt.nd rfl (.inl rfl) (C8.pe_c cD hr (by decide) (by rfl) (pa_cons (pv 0) (pa_cons (pe_ix ix_list (pe_lst (pa_cons pe_int (pa_cons pe_int pa_nil))) (pv 1) (fun _ _ => rfl)) pa_nil))))
      (pss_cons (ps_if (pt_cmpR op_lt (pv 2) pe_int (nomark _)) (pss_one (ps_ret (pe_tup (pa_cons (pe_op op_add pe_int (C8.pe_c cD hr (by decide) (by rfl) (pa_cons (pv 0) (pa_cons pe_int pa_nil)))) (pa_cons pe_int pa_nil))))) pss_nil)
      (pss_cons (ps_if (pt_cmpR op_eq (pv 2) pe_int (nomark _)) (pss_one (ps_ret (C8.pe_c cL hr (by decide) (by rfl) (pa_cons (pe_op op_add pe_int (C8.pe_c cD hr (by decide) (by rfl) (pa_cons (pv 0) (pa_cons pe_int pa_nil)))) (pa_cons (pe_op op_add pe_int (C8.pe_c cD hr (by decide) (by rfl) (pa_cons (pv 0) (pa_cons pe_int pa_nil)))) pa_nil))))) pss_nil)
      (pss_cons (ps_if (pt_cmpR op_eq (pv 2) pe_int (nomark _)) (pss_one (ps_ret (pe_tup (pa_cons (pe_op op_add pe_int (C8.pe_c cD hr (by decide) (by rfl) (pa_cons (pv 0) (pa_cons (pe_op op_pow pe_int pe_int) pa_nil)))) (pa_cons pe_int pa_nil))))) pss_nil)
      (pss_one (ps_ret (C8.pe_c cL hr (by decide) (by rfl) (pa_cons (pe_op op_add pe_int (C8.pe_c cD hr (by decide) (by rfl) (pa_cons (pv 0) (pa_cons (pe_op op_pow pe_int pe_int) pa_nil)))) (pa_cons (pe_op op_add pe_int (C8.pe_c cD hr (by decide) (by rfl) (pa_cons (pv 0) (pa_cons (pe_ix ix_list (pe_lst (pa_cons pe_int (pa_cons (pe_op op_pow pe_int pe_int) pa_nil))) (pe_op op_sub (pv 2) pe_int) (fun _ _ => rfl)) pa_nil)))) pa_nil))))))))), ?_⟩
    have e39 : (2 : Nat) ^ 39 = 549755813888 := by decide
    have e40 : (2 : Nat) ^ 40 = 1099511627776 := by decide
    refine ⟨_, rfl, (by show 2 ≤ sizeLine; rw [sizeLine_eq]; omega), fun L nL => ?_⟩
    have nLd := dk.new nL
    obtain ⟨m, hm, hm2⟩ : ∃ m : Int, atI [V.int 3, .int 6] far = some (.int m) ∧ (m = 3 ∨ m = 6) := by
      rcases hf with rfl | rfl
      · exact ⟨3, atI_nat (j := 0) rfl, .inl rfl⟩
      · exact ⟨6, atI_nat (j := 1) rfl, .inr rfl⟩
    refine ⟨_, rfl, L, _, far, _, rfl, rfl, SqL.of upd_same, hm, d, m, N, rfl, by omega, by omega, dk.upd nLd, by omega, fun way H1 w0 w1 e1 dk1 => ?_⟩
    have eH1 : EB d H H1 := (EB.of (Ext.upd nL)).trans e1
    refine ⟨_, rfl, _, _, rfl, rfl, _, rfl, ?_⟩
    by_cases c1 : way < 2
    · rw [decide_eq_true c1]
      refine iteT ⟨_, rfl, d, 9, N + 1, rfl, by decide, by decide, dk1, by omega, fun r H2 r0 r1 e2 dk2 => ⟨_, _, rfl, rfl, (by show 2 ≤ sizeLine; rw [sizeLine_eq]; omega), fun T nT => ?_⟩⟩
      exact q T _ (1 + r) 1 ((eH1.trans e2).trans (EB.of (Ext.upd nT))) ((dk2.mono (by omega)).upd (dk2.new nT)) (EB.none (eH1.trans e2) dk ⟨_, dk2⟩ nT) upd_same (by omega) (by omega) (by decide) (by decide)
    rw [decide_eq_false c1]
    refine iteF (nxt ⟨_, rfl, rfl, _, rfl, ?_⟩)
    by_cases c2 : way = 2
    · rw [decide_eq_true (show V.int way = V.int 2 by rw [c2])]
      refine iteT ⟨_, rfl, d, 40, N + 1, rfl, by decide, by decide, dk1, by omega, fun r H2 r0 r1 e2 dk2 => ⟨_, _, rfl, rfl, ?_⟩⟩
      refine ⟨_, rfl, d, 12, N + 1 + 1, rfl, by decide, by decide, dk2, by omega, fun r' H3 r0' r1' e3 dk3 => ⟨_, _, rfl, rfl, 1 + r, 1 + r', rfl, by omega, by omega, by omega, by omega, fun p H4 t b e4 np hp t1 t2 b1 b2 => ?_⟩⟩
      exact q p H4 t b (((eH1.trans e2).trans e3).trans (EB.of e4)) ((dk3.mono (by omega)).ext e4) (EB.none ((eH1.trans e2).trans e3) dk ⟨_, dk3⟩ np) hp t1 t2 b1 b2
    rw [decide_eq_false (show ¬ V.int way = V.int 2 from fun y => c2 (by injection y))]
    refine iteF (nxt ⟨_, rfl, rfl, _, rfl, ?_⟩)
    by_cases c3 : way = 3
    · rw [decide_eq_true (show V.int way = V.int 3 by rw [c3])]
      refine iteT ⟨_, rfl, _, _, rfl, rfl, ⟨by decide, by decide, by decide⟩, d, 10 ^ (6 : Int).toNat, N + 1, rfl, by decide, by decide, dk1, by omega, fun r H2 r0 r1 e2 dk2 => ⟨_, _, rfl, rfl, (by show 2 ≤ sizeLine; rw [sizeLine_eq]; omega), fun T nT => ?_⟩⟩
      have r1' : r < 1000000 := r1
      exact q T _ (1 + r) 1 ((eH1.trans e2).trans (EB.of (Ext.upd nT))) ((dk2.mono (by omega)).upd (dk2.new nT)) (EB.none (eH1.trans e2) dk ⟨_, dk2⟩ nT) upd_same (by omega) (by omega) (by decide) (by decide)
    rw [decide_eq_false (show ¬ V.int way = V.int 3 from fun y => c3 (by injection y))]
    refine iteF (nxt ?_)
    refine ⟨_, rfl, _, _, rfl, rfl, ⟨by decide, by decide, by decide⟩, d, 10 ^ (6 : Int).toNat, N + 1, rfl, by decide, by decide, dk1, by omega, fun r H2 r0 r1 e2 dk2 => ⟨_, _, rfl, rfl, ?_⟩⟩
    have r1' : r < 1000000 := r1
    refine ⟨_, rfl, _, _, rfl, rfl, ⟨by decide, by decide, by decide⟩, (by show 2 ≤ sizeLine; rw [sizeLine_eq]; omega), fun L2' nL2 => ?_⟩
    have nL2d := dk2.new nL2
    obtain ⟨m2, hm3, hm4⟩ : ∃ m2 : Int, atI [V.int 9, .int (10 ^ (6 : Int).toNat)] (way - 4) = some (.int m2) ∧ 1 ≤ m2 ∧ m2 ≤ 1000000 := by
      rcases (show way - 4 = 0 ∨ way - 4 = 1 by omega) with e | e <;> rw [e]
      · exact ⟨9, atI_nat (j := 0) rfl, by decide, by decide⟩
      · exact ⟨1000000, atI_nat (j := 1) rfl, by decide, by decide⟩
    refine ⟨_, rfl, _, _, rfl, rfl, L2', _, way - 4, _, rfl, rfl, SqL.of upd_same, hm3, d, m2, N + 1 + 1, rfl, hm4.1, hm4.2, dk2.upd nL2d, by omega, fun r' H3 r0' r1'' e3 dk3 => ⟨_, _, rfl, rfl, 1 + r, 1 + r', rfl, by omega, by omega, by omega, by omega, fun p H4 t b e4 np hp t1 t2 b1 b2 => ?_⟩⟩
    have eH3 : EB d H H3 := ((eH1.trans e2).trans (EB.of (Ext.upd nL2))).trans e3
    exact q p H4 t b (eH3.trans (EB.of e4)) ((dk3.mono (by omega)).ext e4) (EB.none eH3 dk ⟨_, dk3⟩ np) hp t1 t2 b1 b2
def spDy : Sp := fun vs H Q _ => ∃ (d : Addr) (N : Nat), vs = [.ref d] ∧ DeckAt H d N ∧ N ≤ 2 ^ 39 ∧ ∀ r H', 0 ≤ r → r ≤ 1200 → EB d H H' → DeckAt H' d (N + 4) → Q (.int r) H'
theorem scDy : FnScope ["_law_deck_here"] ["_law_deck_here"] (defScope (top 55)) := ⟨rfl, rfl, rfl, by decide +kernel, rfl, by decide +kernel, by decide +kernel⟩
theorem ok_dy (Z : Wd K mg) : C8.Cal P w K mg base 2 "_law_day" spDy [] := by
  refine cal (st := top 55) Z.d__law_day Z.g__law_day scDy (fun vs H Q E h => ?_) (fun _ _ _ _ _ _ us hl => match us, hl with | [_], _ => rfl) fun cdv A outer s H vs Q E hr h => ?_
  · obtain ⟨d, N, rfl, _⟩ := h
    rfl
  · obtain ⟨d, N, rfl, dk, hN, q⟩ := h
    have cD := ok_draw (P := P) (w := w) (base := base) Z
    refine ⟨_, PSs.nox (pss_one (ps_ret (pe_ix ix_list (pe_lst (pa_cons (C8.pe_c cD hr (by decide) (by rfl) (pa_cons (pv 0) (pa_cons pe_int pa_nil))) (pa_cons (pe_op op_add pe_int (C8.pe_c cD hr (by decide) (by rfl) (pa_cons (pv 0) (pa_cons pe_int pa_nil))))
      (pa_cons (C8.pe_c cD hr (by decide) (by rfl) (pa_cons (pv 0) (pa_cons pe_int pa_nil))) (pa_cons pe_int pa_nil))))) (C8.pe_c cD hr (by decide) (by rfl) (pa_cons (pv 0) (pa_cons pe_int pa_nil))) (fun _ _ => rfl)))), ?_⟩
    have e39 : (2 : Nat) ^ 39 = 549755813888 := by decide
    have e40 : (2 : Nat) ^ 40 = 1099511627776 := by decide
    refine ⟨_, rfl, d, 3, N, rfl, by decide, by decide, dk, by omega, fun a H1 a0 a1 e1 dk1 => ?_⟩
    refine ⟨_, rfl, d, 3, N + 1, rfl, by decide, by decide, dk1, by omega, fun b H2 b0 b1 e2 dk2 => ⟨_, _, rfl, rfl, ?_⟩⟩
    refine ⟨_, rfl, d, 1201, N + 1 + 1, rfl, by decide, by decide, dk2, by omega, fun c H3 c0 c1 e3 dk3 => ⟨(by show 4 ≤ sizeLine; rw [sizeLine_eq]; omega), fun L nL => ?_⟩⟩
    have nLd := dk3.new nL
    refine ⟨_, rfl, d, 4, N + 1 + 1 + 1, rfl, by decide, by decide, dk3.upd nLd, by omega, fun r H4 r0 r1 e4 dk4 => ?_⟩
    obtain ⟨x, hx, x0, x1⟩ : ∃ x : Int, atI [V.int a, .int (29 + b), .int c, .int 1200] r = some (.int x) ∧ 0 ≤ x ∧ x ≤ 1200 := by
      rcases (show r = 0 ∨ r = 1 ∨ r = 2 ∨ r = 3 by omega) with rfl | rfl | rfl | rfl
      · exact ⟨a, atI_nat (j := 0) rfl, by omega, by omega⟩
      · exact ⟨29 + b, atI_nat (j := 1) rfl, by omega, by omega⟩
      · exact ⟨c, atI_nat (j := 2) rfl, by omega, by omega⟩
      · exact ⟨1200, atI_nat (j := 3) rfl, by omega, by omega⟩
    exact ⟨L, _, r, _, rfl, rfl, SqL.of (e4 _ _ (Ne.symm nLd) upd_same), hx, q x H4 x0 x1 ((((e1.trans e2).trans e3).trans (EB.of (Ext.upd nL))).trans e4) dk4⟩
/-! ### _law_casks -/
/-- a part as it is told -/
structure RP where
  ware : Str
  t : Int
  b : Int
def RPAt (H : Hp) (u : Addr) (p : RP) : Prop := ∃ v, H u = some (.tup [.str p.ware, .ref v]) ∧ H v = some (.tup [.int p.t, .int p.b])
structure RK where
  fig : List Nat
  since : Int
  parts : List RP
/-- a cask as it is told: the parts in a list -/
def RKAt (H : Hp) (c : Addr) (k : RK) : Prop := ∃ l ps, H c = some (.tup [.str (mk k.fig), .int k.since, .ref l]) ∧ H l = some (.lst (ps.map V.ref)) ∧ Paired (RPAt H) ps k.parts
structure RpOk (p : RP) : Prop where
  t1 : 1 ≤ p.t
  t2 : p.t ≤ 1000000
  b1 : 1 ≤ p.b
  b2 : p.b ≤ 1000000
structure RkOk (k : RK) : Prop where
  fig : FigOk k.fig
  d0 : 0 ≤ k.since
  d1 : k.since ≤ 1200
  few : k.parts.length ≤ 4
  name : ∀ p ∈ k.parts, NameOk p.ware
  ok : ∀ p ∈ k.parts, RpOk p
  up : k.parts.Pairwise fun p q => ltS p.ware q.ware
theorem RPAt.kp {H H' : Hp} {u : Addr} {p : RP} (h : RPAt H u p) (e : Kp H H') : RPAt H' u p := let ⟨v, a, b⟩ := h; ⟨v, e _ _ a (fun _ z => by cases z) (fun _ z => by cases z), e _ _ b (fun _ z => by cases z) (fun _ z => by cases z)⟩
theorem RKAt.eb {d : Addr} {N : Nat} {H H' : Hp} {c : Addr} {k : RK} (h : RKAt H c k) (hd : ∀ l, (∃ f s, H c = some (.tup [f, s, .ref l])) → l ≠ d) (dk : DeckAt H d N) (e : EB d H H') : RKAt H' c k := by
  obtain ⟨l, ps, h1, h2, h3⟩ := h
  exact ⟨l, ps, e _ _ (dk.ne h1 fun _ z => by cases z) h1, e _ _ (hd l ⟨_, _, h1⟩) h2, paired_mono (fun _ _ z => z.kp (e.kp dk)) h3⟩
end
end K34
set_option Elab.async false
set_option linter.all false
set_option maxRecDepth 100000
set_option maxHeartbeats 4000000
/-! K34D6: casks drawn, casks made. -/
namespace K34
open PySem PySem.Spec PyProof.Rows L2
theorem ltCps_tri : ∀ a b : List Nat, ltCps a b = false → ltCps b a = false → a = b
  | [], [], _, _ => rfl
  | [], _ :: _, h, _ => by cases h
  | _ :: _, [], _, h => by cases h
  | x :: r, y :: t, h1, h2 => by
    have g1 : (decide (x < y) || (x == y && ltCps r t)) = false := h1
    have g2 : (decide (y < x) || (y == x && ltCps t r)) = false := h2
    rw [Bool.or_eq_false_iff, decide_eq_false_iff_not] at g1 g2
    have e : x = y := by omega
    subst e
    rw [beq_self_eq_true, Bool.true_and] at g1 g2
    rw [ltCps_tri r t g1.2 g2.2]
theorem ltS_of {x y : Str} (h : ltCps y.cps.toList x.cps.toList = false) (n : x ≠ y) : ltS x y := by
  unfold ltS
  have z : ltCps x.cps.toList y.cps.toList = true := by
    cases e : ltCps x.cps.toList y.cps.toList with
    | true => rfl
    | false =>
      have := ltCps_tri _ _ e h
      exact absurd (by
        obtain ⟨⟨a⟩⟩ := x
        obtain ⟨⟨b⟩⟩ := y
        simp at this
        rw [this]) n
  rw [ltCps_eq] at z
  exact of_decide_eq_true z
theorem ltS_trans {x y z : Str} (a : ltS x y) (b : ltS y z) : ltS x z := List.lt_trans a b
theorem rising_up : ∀ (r : List Str) (p : Str), risingS p r = true → (p :: r).Nodup → (p :: r).Pairwise ltS
  | [], p, _, _ => List.pairwise_singleton _ _
  | x :: r, p, h, nd => by
    have h' : (!ltCps x.cps.toList p.cps.toList && risingS x r) = true := h
    rw [Bool.and_eq_true, Bool.not_eq_true'] at h'
    have nd' := List.nodup_cons.mp nd
    have lt : ltS p x := ltS_of h'.1 fun e => nd'.1 (by rw [e]; exact List.mem_cons_self)
    have ih := rising_up r x h'.2 nd'.2
    refine List.pairwise_cons.mpr ⟨fun y hy => ?_, ih⟩
    rcases List.mem_cons.mp hy with rfl | hy
    · exact lt
    · exact ltS_trans lt ((List.pairwise_cons.mp ih).1 y hy)
theorem sorted_up {ys : List Str} (h : sortedS ys = true) (nd : ys.Nodup) : ys.Pairwise ltS := by
  cases ys with
  | nil => exact .nil
  | cons x r => exact rising_up r x h nd
section
variable {P : Program} {w : World} {K : PySem.W.Frag} {mg : Str → Option Value} {base : Heap}
/-- as RKAt, the list apart from d and F -/
def RKX (H : Hp) (d F c : Addr) (k : RK) : Prop := ∃ l ps, l ≠ d ∧ l ≠ F ∧ H c = some (.tup [.str (mk k.fig), .int k.since, .ref l]) ∧ H l = some (.lst (ps.map V.ref)) ∧ Paired (RPAt H) ps k.parts
theorem RKX.go {H H' : Hp} {d F c : Addr} {k : RK} (h : RKX H d F c k) (kp : Kp H H') (e : ∀ b o, b ≠ d → b ≠ F → H b = some o → H' b = some o) : RKX H' d F c k := by
  obtain ⟨l, ps, n1, n2, h1, h2, h3⟩ := h
  exact ⟨l, ps, n1, n2, kp _ _ h1 (fun _ z => by cases z) (fun _ z => by cases z), e _ _ n1 n2 h2, paired_mono (fun _ _ z => z.kp kp) h3⟩
theorem RKX.rk {H : Hp} {d F c : Addr} {k : RK} (h : RKX H d F c k) : RKAt H c k := let ⟨l, ps, _, _, h1, h2, h3⟩ := h; ⟨l, ps, h1, h2, h3⟩
def spCs : Sp := fun vs H Q _ => ∃ (d W : Addr) (ws : List Str) (N : Nat), vs = [.ref d, .ref W] ∧ DeckAt H d N ∧ N ≤ 2 ^ 38 ∧ H W = some (.lst (ws.map V.str)) ∧ W ≠ d ∧ ws.length ≤ 4 ∧ ws.Nodup ∧ (∀ z ∈ ws, NameOk z) ∧
  ∀ p H' (cs : List Addr) (ks : List RK), EB d H H' → DeckAt H' d (N + 1000) → H p = none → H' p = some (.lst (cs.map V.ref)) → Paired (RKAt H') cs ks → ks.length ≤ 12 → (ks.map (·.fig)).Nodup → (∀ k ∈ ks, RkOk k) → Q (.ref p) H'
abbrev nsC : List Str := ["_law_deck_here", "_law_wares", "_law_great", "_law_far", "_law_many", "_law_marks_here", "_law_days", "_law_found", "_law_mark", "_law_parts", "_law_ware"]
theorem scCs : FnScope nsC ["_law_deck_here", "_law_wares"] (defScope (top 56)) := ⟨rfl, rfl, rfl, by decide +kernel, rfl, by decide +kernel, by decide +kernel⟩
theorem ok_cs (Z : Wd K mg) : C8.Cal P w K mg base 3 "_law_casks" spCs [] := by
  refine cal (st := top 56) Z.d__law_casks Z.g__law_casks scCs (fun vs H Q E h => ?_) (fun _ _ _ _ _ _ us hl => match us, hl with | [_, _], _ => rfl) fun cdv A outer s H vs Q E hr h => ?_
  · obtain ⟨d, W, ws, N, rfl, _⟩ := h
    rfl
  · obtain ⟨d, W, ws, N, rfl, dk, hN, hW, nWd, lw, nd, wok, q⟩ := h
    have cD := ok_draw (P := P) (w := w) (base := base) Z
    have cM := ok_marks (P := P) (w := w) (base := base) Z
    have cY := ok_dy (P := P) (w := w) (base := base) Z
    have cW := ok_wt (P := P) (w := w) (base := base) Z
    refine ⟨_, PSs.nox (pss_cons (ps_set (i := 2) scCs.nd rfl (.inl rfl) (pe_callTy call_int1 (by rfl) Z.f_int (by decide +kernel) (pa_cons (pe_cmpR op_eq (C8.pe_c cD hr (by decide) (by rfl) (pa_cons (pv 0) (pa_cons pe_int pa_nil))) pe_int (nomark _)) pa_nil)))
      (pss_cons (ps_set (i := 3) scCs.nd rfl (.inr rfl) (pe_callTy call_int1 (by rfl) Z.f_int (by decide +kernel) (pa_cons (pe_cmpR op_eq (C8.pe_c cD hr (by decide) (by rfl) (pa_cons (pv 0) (pa_cons pe_int pa_nil))) pe_int (nomark _)) pa_nil)))
      (pss_cons (ps_set (i := 4) scCs.nd rfl (.inl rfl) (pe_ix ix_list (pe_lst (pa_cons (C8.pe_c cD hr (by decide) (by rfl) (pa_cons (pv 0) (pa_cons pe_int pa_nil))) (pa_cons pe_int pa_nil))) (pv 2) (fun _ _ => rfl)))
      (pss_cons (ps_set (i := 5) scCs.nd rfl (.inl rfl) (C8.pe_c cM hr (by decide) (by rfl) (pa_cons (pv 0) (pa_cons (pv 4) pa_nil))))
      (pss_cons (ps_set (i := 6) scCs.nd rfl (.inl rfl) (pe_lst (pa_cons (C8.pe_c cY hr (by decide) (by rfl) (pa_cons (pv 0) pa_nil)) (pa_cons (C8.pe_c cY hr (by decide) (by rfl) (pa_cons (pv 0) pa_nil)) (pa_cons pe_int pa_nil)))))
      (pss_cons (ps_set (i := 7) scCs.nd rfl (.inl rfl) (pe_lst pa_nil))
      (pss_cons (ps_for PassesOwn.never rfl (pi_list (pv 5)) (pg_name (i := 8) scCs.nd rfl (Or.inl rfl))
        (pss_cons (ps_setLc (i := 9) (own := [("_law_ware", 10)]) (g := gName 10) (tt := tTest (tOp (rI0 fun i j => V.bl (decide (i > j))) (tCall spDraw [] C8.E0 (tCons (tVar 0) (tCons (tC (.int 4)) tNil))) (tC (.int 0)))) rfl scCs.nd rfl rfl (sw_true rfl rfl rfl (by decide +kernel)) (pi_list (pe_callB cr_sortedS (by rfl) Z.f_sorted (by decide +kernel) (pa_cons (pv 1) pa_nil)))
          (blkOk_by (own := [("_law_ware", 10)]) (N := nsC) (sc := defScope (top 56)) (by decide +kernel))
          (fun _ _ _ _ _ => pg_name (i := 10) scCs.nd rfl (Or.inl rfl)) (fun _ _ _ _ _ => pts_one (pt_cmpR op_gt (C8.pe_c cD hr (by decide) (by rfl) (pa_cons (pv 0) (pa_cons pe_int pa_nil))) pe_int (nomark _)))
          (fun _ _ _ _ _ => pe_tup (pa_cons (pv 10) (pa_cons (C8.pe_c cW hr (by decide) (by rfl) (pa_cons (pv 0) (pa_cons (pv 3) pa_nil))) pa_nil))))
        (pss_one (ps_expr (pe_bm PySem.F.plainAttrs_list PySem.F.slot_list_append PySem.F.type_list_append mt_append (pv 7) (pa_cons (pe_tup (pa_cons (pv 8) (pa_cons (pe_ix ix_list (pv 6) (C8.pe_c cD hr (by decide) (by rfl) (pa_cons (pv 0) (pa_cons pe_int pa_nil))) (fun _ _ => rfl)) (pa_cons (pv 9) pa_nil)))) pa_nil))))))
      (pss_one (ps_ret (pv 7)))))))))), ?_⟩
    have e38 : (2 : Nat) ^ 38 = 274877906944 := by decide
    have e39 : (2 : Nat) ^ 39 = 549755813888 := by decide
    have e40 : (2 : Nat) ^ 40 = 1099511627776 := by decide
    refine ⟨_, rfl, d, 8, N, rfl, by decide, by decide, dk, by omega, fun r1 H1 _ _ e1 dk1 => ⟨rfl, .inr ⟨_, rfl, ?_⟩⟩⟩
    refine ⟨_, rfl, d, 4, N + 1, rfl, by decide, by decide, dk1, by omega, fun r2 H2 _ _ e2 dk2 => ⟨rfl, .inr ⟨_, rfl, ?_⟩⟩⟩
    obtain ⟨gr, hgr, gr2⟩ : ∃ gr : Int, (if decide (V.int r1 = V.int 5) = true then (1 : Int) else 0) = gr ∧ (gr = 0 ∨ gr = 1) := by
      split
      · exact ⟨1, rfl, .inr rfl⟩
      · exact ⟨0, rfl, .inl rfl⟩
    obtain ⟨fr, hfr, fr2⟩ : ∃ fr : Int, (if decide (V.int r2 = V.int 1) = true then (1 : Int) else 0) = fr ∧ (fr = 0 ∨ fr = 1) := by
      split
      · exact ⟨1, rfl, .inr rfl⟩
      · exact ⟨0, rfl, .inl rfl⟩
    rw [hgr, hfr]
    refine ⟨_, rfl, d, 6, N + 1 + 1, rfl, by decide, by decide, dk2, by omega, fun r3 H3 r30 r31 e3 dk3 => ⟨(by show 2 ≤ sizeLine; rw [sizeLine_eq]; omega), fun L nL => ?_⟩⟩
    have nLd := dk3.new nL
    obtain ⟨m, hm, hm2⟩ : ∃ m : Nat, atI [V.int r3, .int 12] gr = some (.int m) ∧ m ≤ 12 := by
      obtain ⟨k, rfl⟩ := Int.eq_ofNat_of_zero_le r30
      rcases gr2 with rfl | rfl
      · exact ⟨k, atI_nat (j := 0) rfl, by omega⟩
      · exact ⟨12, atI_nat (j := 1) rfl, by omega⟩
    refine ⟨_, rfl, L, _, gr, _, rfl, rfl, SqL.of upd_same, hm, ?_⟩
    refine ⟨_, rfl, _, rfl, d, m, N + 1 + 1 + 1, rfl, hm2, dk3.upd nLd, by omega, fun M H4 fs e4 dk4 nM hM lf ndf okf => ?_⟩
    have nMd : d ≠ M := (dk3.upd nLd).new nM
    refine ⟨_, rfl, d, N + 1 + 1 + 1 + 16, rfl, dk4, by omega, fun y1 H5 y10 y11 e5 dk5 => ?_⟩
    refine ⟨_, rfl, d, N + 1 + 1 + 1 + 16 + 4, rfl, dk5, by omega, fun y2 H6 y20 y21 e6 dk6 => ⟨(by show 3 ≤ sizeLine; rw [sizeLine_eq]; omega), fun Dy nDy => ?_⟩⟩
    have nDyd := dk6.new nDy
    refine ⟨by decide, fun F nF => ?_⟩
    have nFd := (dk6.upd nDyd).new nF
    have eH3 : EB d H H3 := (e1.trans e2).trans e3
    have eH4 : EB d H H4 := (eH3.trans (EB.of (Ext.upd nL))).trans e4
    have eH6 : EB d H H6 := (eH4.trans e5).trans e6
    have hM6 := e6 _ _ (Ne.symm nMd) (e5 _ _ (Ne.symm nMd) hM)
    have nMDy : M ≠ Dy := ne_of_none hM6 nDy
    have hM7 := (upd_ne (o := .lst [.int y1, .int y2, .int 0]) (H := H6) nMDy).trans hM6
    have nMF : M ≠ F := ne_of_none hM7 nF
    have nDF : Dy ≠ F := ne_of_none upd_same nF
    have eH7 : EB d H (upd H6 Dy (.lst [.int y1, .int y2, .int 0])) := eH6.trans (EB.of (Ext.upd nDy))
    have nFH : H F = none := EB.none eH7 dk ⟨_, dk6.upd nDyd⟩ nF
    have eH8 : EB d H (upd (upd H6 Dy (.lst [.int y1, .int y2, .int 0])) F (.lst [])) := eH7.put nFH
    have nWF : W ≠ F := ne_of_none hW nFH
    refine ⟨_, rfl, M, rfl, ⟨_, SqL.of ((upd_ne nMF).trans hM7)⟩, for_it (walk_list (xs := fs.map fun f => V.str (mk f))) (fun i σ H9 => (∃ a b, σ = [some (.ref d), some (.ref W), some (.int gr), some (.int fr), some (.int m), some (.ref M), some (.ref Dy), some (.ref F), a, b, none]) ∧ EB d H H9 ∧ DeckAt H9 d (N + 27 + 30 * i) ∧ H9 M = some (.lst (fs.map fun f => V.str (mk f))) ∧ H9 Dy = some (.lst [.int y1, .int y2, .int 0]) ∧
        ∃ (cs : List Addr) (ks : List RK), H9 F = some (.lst (cs.map V.ref)) ∧ Paired (RKX H9 d F) cs ks ∧ ks.map (·.fig) = fs.take i ∧ ∀ k ∈ ks, RkOk k)
      ⟨⟨none, none, rfl⟩, eH8, ((dk6.upd nDyd).upd nFd).mono (by omega), (upd_ne nMF).trans hM7, (upd_ne nDF).trans upd_same, [], [], upd_same, .nil, rfl, fun k hk => by cases hk⟩ (fun i σ H9 _ p => SqL.of p.2.2.2.1) (fun i x σ H9 H10 hi p y => ?_) fun σ H9 p => ?_⟩
    · obtain ⟨⟨a, b, rfl⟩, e9, dk9, hM9, hDy9, cs, ks, hF9, hks, figs, okk⟩ := p
      obtain ⟨rfl, hx⟩ := y
      rw [List.getElem?_map] at hx
      obtain ⟨f, hf, rfl⟩ := Option.map_eq_some_iff.mp hx
      have hi' : i < fs.length := (List.getElem?_eq_some_iff.mp hf).1
      have hW9 := e9 _ _ nWd hW
      refine ⟨_, rfl, W, ws, rfl, SqL.of hW9, by omega, fun ys S pm srt nS => ?_⟩
      have up := sorted_up srt (pm.nodup_iff.mpr nd)
      have ly := pm.length_eq
      have nSd := dk9.new nS
      have dk10 : DeckAt (upd H10 S (.lst (ys.map V.str))) d (N + 27 + 30 * i) := dk9.upd nSd
      refine ⟨S, rfl, ⟨_, SqL.of upd_same⟩, fun D nD => ?_⟩
      have nDd := dk10.new nD
      have nSD : S ≠ D := ne_of_none upd_same nD
      have nD10 : H10 D = none := by rw [upd_ne (Ne.symm nSD)] at nD; exact nD
      have nDH : H D = none := EB.none e9 dk ⟨_, dk9⟩ nD10
      -- the parts
      refine lc_it (walk_list (xs := ys.map V.str)) (fun j H11 => EB d H10 H11 ∧ DeckAt H11 d (N + 27 + 30 * i + 5 * j) ∧ H11 S = some (.lst (ys.map V.str)) ∧ ∃ (us : List Addr) (ps : List RP), H11 D = some (.lst (us.map V.ref)) ∧ Paired (RPAt H11) us ps ∧ (ps.map (·.ware)).Sublist (ys.take j) ∧ ∀ p ∈ ps, RpOk p)
        ⟨EB.of ((Ext.upd nS).trans (Ext.upd nD)), dk10.upd nDd, (upd_ne nSD).trans upd_same, [], [], upd_same, .nil, List.nil_sublist _, fun p hp => by cases hp⟩ (fun j H11 _ p => SqL.of p.2.2.1) (fun j x H11 H12 hj p y => ?_) fun H11 p => ?_
      · obtain ⟨e11, dk11, hS11, us, ps, hD11, hus, sub, okp⟩ := p
        obtain ⟨rfl, hx⟩ := y
        rw [List.getElem?_map] at hx
        obtain ⟨z, hz, rfl⟩ := Option.map_eq_some_iff.mp hx
        have hj' : j < ys.length := (List.getElem?_eq_some_iff.mp hz).1
        have ht := take_snoc hz
        refine ⟨rfl, ?_⟩
        refine ⟨_, rfl, d, 4, _, rfl, by decide, by decide, dk11, by omega, fun r H13 _ _ e13 dk13 => ⟨_, _, rfl, rfl, _, rfl, ?_⟩⟩
        have hS13 := e13 _ _ (Ne.symm nSd) hS11
        have hD13 := e13 _ _ (Ne.symm nDd) hD11
        have hus13 := paired_mono (fun _ _ y => RPAt.kp y (e13.kp dk11)) hus
        by_cases c : r > 0
        · rw [decide_eq_true c]
          refine iteT ⟨_, rfl, _, rfl, _, rfl, d, fr, _, rfl, fr2, dk13, by omega, fun p H14 t b e14 dk14 np hp t1 t2 b1 b2 => ⟨(by show 2 ≤ sizeLine; rw [sizeLine_eq]; omega), fun T nT => ?_⟩⟩
          have hD14 := e14 _ _ (Ne.symm nDd) hD13
          have nTD : D ≠ T := ne_of_none hD14 nT
          have nTd := dk14.new nT
          have hS14 := e14 _ _ (Ne.symm nSd) hS13
          have nTS : S ≠ T := ne_of_none hS14 nT
          have npT : p ≠ T := ne_of_none hp nT
          have npD : p ≠ D := fun z => by
            rw [z, hD14] at hp
            cases hp
          have kp : Kp H13 (upd (upd H14 T (.tup [.str z, .ref p])) D (.lst (us.map V.ref ++ [.ref T]))) := ((e14.kp dk13).trans (Kp.new nT)).trans (Kp.put ((upd_ne nTD).trans hD14))
          refine ⟨us.map V.ref, (upd_ne nTD).trans hD14, ?_, (((e11.trans e13).trans e14).trans (EB.of (Ext.upd nT))).put nD10, ((dk14.upd nTd).upd nDd).mono (by omega), (upd_ne nSD).trans ((upd_ne nTS).trans hS14), us ++ [T], ps ++ [⟨z, t, b⟩], ?_, ?_, ?_, ?_⟩
          · have l1 := Paired.length hus
            have l2 := sub.length_le
            rw [List.length_map, List.length_take] at l2
            rw [List.length_map, sizeLine_eq]
            omega
          · rw [upd_same, List.map_append]
            rfl
          · refine paired_snoc ⟨p, ?_, ?_⟩ (paired_mono (fun _ _ y => RPAt.kp y kp) hus13)
            · rw [upd_ne (Ne.symm nTD), upd_same]
            · rw [upd_ne npD, upd_ne npT]
              exact hp
          · rw [ht, List.map_append]
            exact sub.append (List.Sublist.refl _)
          · intro p' hp'
            rcases List.mem_append.mp hp' with y | y
            · exact okp p' y
            · rw [List.mem_singleton.mp y]
              exact ⟨t1, t2, b1, b2⟩
        · rw [decide_eq_false c]
          refine iteF ⟨e11.trans e13, dk13.mono (by omega), hS13, us, ps, hD13, hus13, ?_, okp⟩
          rw [ht]
          exact sub.trans (List.sublist_append_left _ _)
      · obtain ⟨e11, dk11, hS11, us, ps, hD11, hus, sub, okp⟩ := p
        rw [List.length_map, List.take_length] at sub
        rw [List.length_map] at dk11
        have nDF' : D ≠ F := fun z => by
          rw [z, hF9] at nD10
          cases nD10
        have hF11 := e11 _ _ (Ne.symm nFd) hF9
        have hM11 := e11 _ _ (Ne.symm nMd) hM9
        have hDy11 := e11 _ _ (Ne.symm nDyd) hDy9
        have k11 := e11.kp dk9
        refine ⟨_, rfl, .inl ⟨rfl, _, SqL.of hF11⟩, _, rfl, _, rfl, _, rfl, d, 3, _, rfl, by decide, by decide, dk11, by omega, fun r H12 r0 r1' e12 dk12 => ?_⟩
        obtain ⟨dy, hdy, dy0, dy1⟩ : ∃ dy : Int, atI [V.int y1, .int y2, .int 0] r = some (.int dy) ∧ 0 ≤ dy ∧ dy ≤ 1200 := by
          rcases (show r = 0 ∨ r = 1 ∨ r = 2 by omega) with rfl | rfl | rfl
          · exact ⟨y1, atI_nat (j := 0) rfl, y10, y11⟩
          · exact ⟨y2, atI_nat (j := 1) rfl, y20, y21⟩
          · exact ⟨0, atI_nat (j := 2) rfl, by decide, by decide⟩
        have hF12 := e12 _ _ (Ne.symm nFd) hF11
        have hM12 := e12 _ _ (Ne.symm nMd) hM11
        have hDy12 := e12 _ _ (Ne.symm nDyd) hDy11
        have hD12 := e12 _ _ (Ne.symm nDd) hD11
        refine ⟨Dy, _, r, _, rfl, rfl, SqL.of hDy12, hdy, _, rfl, (by show 3 ≤ sizeLine; rw [sizeLine_eq]; omega), fun T nT => ?_⟩
        have nTF : F ≠ T := ne_of_none hF12 nT
        have nTd := dk12.new nT
        have nTM : M ≠ T := ne_of_none hM12 nT
        have nTDy : Dy ≠ T := ne_of_none hDy12 nT
        have nTD : D ≠ T := ne_of_none hD12 nT
        have hF13 := (upd_ne (o := .tup [.str (mk f), .int dy, .ref D]) (H := H12) nTF).trans hF12
        have lks : ks.length = i := by
          have := congrArg List.length figs
          rw [List.length_map, List.length_take] at this
          omega
        have kp12 : Kp H12 (upd (upd H12 T (.tup [.str (mk f), .int dy, .ref D])) F (.lst (cs.map V.ref ++ [.ref T]))) := (Kp.new nT).trans (Kp.put hF13)
        have kp11 := (e12.kp dk11).trans kp12
        have stay : ∀ (b : Addr) (o : HO), b ≠ d → b ≠ F → H10 b = some o → upd (upd H12 T (.tup [.str (mk f), .int dy, .ref D])) F (.lst (cs.map V.ref ++ [.ref T])) b = some o := fun b o n1 n2 y => by
          have := e12 _ _ n1 (e11 _ _ n1 y)
          rw [upd_ne n2, upd_ne (ne_of_none this nT)]
          exact this
        refine ⟨F, _, _, rfl, rfl, hF13, ?_, ⟨_, _, rfl⟩, (((e9.trans e11).trans e12).trans (EB.of (Ext.upd nT))).put nFH, ((dk12.upd nTd).upd nFd).mono (by omega), ?_, ?_, cs ++ [T], ks ++ [⟨f, dy, ps⟩], ?_, ?_, ?_, ?_⟩
        · have l1 := Paired.length hks
          rw [List.length_map, sizeLine_eq]
          omega
        · exact stay _ _ (Ne.symm nMd) nMF hM9
        · exact stay _ _ (Ne.symm nDyd) nDF hDy9
        · rw [upd_same, List.map_append]
          rfl
        · refine paired_snoc ⟨D, us, Ne.symm nDd, nDF', ?_, ?_, paired_mono (fun _ _ y => RPAt.kp y kp11) hus⟩ (paired_mono (fun _ _ y => y.go (k11.trans kp11) stay) hks)
          · rw [upd_ne (Ne.symm nTF), upd_same]
          · rw [upd_ne nDF', upd_ne nTD]
            exact hD12
        · rw [List.map_append, figs, take_snoc hf]
          rfl
        · intro k hk
          rcases List.mem_append.mp hk with y | y
          · exact okk k y
          · rw [List.mem_singleton.mp y]
            have pw : (ps.map (·.ware)).Pairwise ltS := up.sublist sub
            have l2 := sub.length_le
            rw [List.length_map] at l2
            refine ⟨okf f (List.mem_of_getElem? hf), dy0, dy1, (by show ps.length ≤ 4; omega), fun p hp => ?_, okp, List.pairwise_map.mp pw⟩
            exact wok _ (pm.mem_iff.mp (sub.subset (List.mem_map.mpr ⟨p, hp, rfl⟩)))
    · obtain ⟨⟨a, b, rfl⟩, e9, dk9, hM9, hDy9, cs, ks, hF9, hks, figs, okk⟩ := p
      rw [List.length_map] at figs dk9
      rw [List.take_length] at figs
      have lks : ks.length = fs.length := by
        have := congrArg List.length figs
        rw [List.length_map] at this
        exact this
      exact ⟨_, rfl, q F H9 cs ks e9 (dk9.mono (by omega)) nFH hF9 (paired_mono (fun _ _ y => y.rk) hks) (by omega) (by rw [figs]; exact ndf) okk⟩
end
end K34
set_option Elab.async false
set_option linter.all false
set_option maxRecDepth 100000
set_option maxHeartbeats 2000000
/-! K34B: notes. -/
namespace K34
open PySem PySem.Spec PyProof.Rows L2
structure NK where
  name : Str
  ware : Str
  grains : Int
  born : Int
structure NkOk (n : NK) : Prop where
  name : NameOk n.name
  ware : NameOk n.ware
  g1 : 1 ≤ n.grains
  g2 : n.grains < 2 ^ 20
  b0 : 0 ≤ n.born
  b1 : n.born ≤ 1200
abbrev CN (K : PySem.W.Frag) : Addr := He.ga K "Note"
def nkFs (n : NK) : List (Str × V) := [("name", .str n.name), ("ware", .str n.ware), ("grains", .int n.grains), ("born", .int n.born)]
def NoteAt (K : PySem.W.Frag) (H : Hp) (p : Addr) (n : NK) : Prop := ∃ dx, H p = some (.ins (CN K) dx (nkFs n))
theorem NoteAt.kp {K : PySem.W.Frag} {H H' : Hp} {p : Addr} {n : NK} (h : NoteAt K H p n) (e : Kp H H') : NoteAt K H' p n := let ⟨dx, a⟩ := h; ⟨dx, e _ _ a (fun _ z => by cases z) (fun _ z => by cases z)⟩
section
variable {P : Program} {w : World} {K : PySem.W.Frag} {mg : Str → Option Value} {base : Heap}
def spNi (K : PySem.W.Frag) : Sp := fun vs H Q _ => ∃ (p : Addr) (n : NK) (dx : Addr), vs = [.ref p, .str n.name, .str n.ware, .int n.grains, .int n.born] ∧ NkOk n ∧ H p = some (.ins (CN K) dx []) ∧
  ∀ H', (∀ b o, b ≠ p → H b = some o → H' b = some o) → H' p = some (.ins (CN K) dx (nkFs n)) → Q .non H'
theorem scNi : FnScope ["self", "name", "ware", "grains", "born"] ["self", "name", "ware", "grains", "born"] (defScope (inClass (top 39) 0)) := ⟨rfl, rfl, rfl, by decide +kernel, rfl, by decide +kernel, by decide +kernel⟩
theorem mak_n (Z : Wd K mg) : C8.Mak P w K mg base 3 "Note" (CN K) (spNi K) [] := by
  obtain ⟨fd, F⟩ := Z.d_Note___init__
  obtain ⟨ds, hv, hb⟩ := FunD.binds1 (ps := ["self", "name", "ware", "grains", "born"]) F 5 1 (by intro z; cases z) rfl fun T kV doc pm an cdv ct us its h1 h2 => match us, its, h1, h2 with
    | [_, _, _, _, _], [_], _, _ => ⟨_, rfl, rfl⟩
  refine ⟨_, fd, _, ds, Z.mk_Note, F.ok (k := 2) scNi (fun vs H Q E h => ?_) (fun cdv A outer s H vs Q E hr h => ?_), Z.g_Note, hb, hv⟩
  · obtain ⟨p, n, dx, rfl, _⟩ := h
    rfl
  · obtain ⟨p, n, dx, rfl, ok, hH, q⟩ := h
    have cN := ok_name (P := P) (w := w) (base := base) Z
    refine ⟨_, PSs.nox (pss_cons (ps_if (PW.pt (pw_or (pt_not (pt_val (C8.pe_c cN hr (by decide) (by rfl) (pa_cons (pv 1) pa_nil)))) (pw_or1 (pt_not (pt_val (C8.pe_c cN hr (by decide) (by rfl) (pa_cons (pv 2) pa_nil))))))) pss_never pss_nil)
      (pss_cons (ps_if (pt_not (pt_val (C8.pe_c (ok_grains (P := P) (w := w) (base := base) Z) hr (by decide) (by rfl) (pa_cons (pv 3) pa_nil)))) pss_never pss_nil)
      (pss_cons (ps_if (pt_not (pt_val (C8.pe_c (ok_day (P := P) (w := w) (base := base) Z) hr (by decide) (by rfl) (pa_cons (pv 4) pa_nil)))) pss_never pss_nil)
      (pss_cons (ps_fld (pv 0) (pv 1) rfl) (pss_cons (ps_fld (pv 0) (pv 2) rfl) (pss_cons (ps_fld (pv 0) (pv 3) rfl) (pss_one (ps_fld (pv 0) (pv 4) rfl)))))))), ?_⟩
    refine ⟨_, rfl, n.name, rfl, ok.name, fun H1 e1 => ⟨true, rfl, iteF ?_⟩⟩
    refine ⟨_, rfl, n.ware, rfl, ok.ware, fun H2 e2 => ⟨true, rfl, iteF (nxt ?_)⟩⟩
    refine ⟨_, rfl, n.grains, rfl, ok.g1, true, rfl, iteF (nxt ?_)⟩
    refine ⟨_, rfl, n.born, rfl, ok.b0, ok.b1, true, rfl, iteF (nxt ?_)⟩
    refine ⟨_, rfl, _, rfl, p, _, dx, _, rfl, e2 _ _ (e1 _ _ hH), Z.cl_Note, Z.n_Note_name, (by show 0 < 1000; decide), ?_⟩
    refine ⟨_, rfl, _, rfl, p, _, dx, _, rfl, upd_same, Z.cl_Note, Z.n_Note_ware, (by show 1 < 1000; decide), ?_⟩
    refine ⟨_, rfl, _, rfl, p, _, dx, _, rfl, upd_same, Z.cl_Note, Z.n_Note_grains, (by show 2 < 1000; decide), ?_⟩
    refine ⟨_, rfl, _, rfl, p, _, dx, _, rfl, upd_same, Z.cl_Note, Z.n_Note_born, (by show 3 < 1000; decide), ?_⟩
    refine q _ (fun b o hb z => ?_) upd_same
    rw [upd_ne hb, upd_ne hb, upd_ne hb, upd_ne hb]
    exact e2 _ _ (e1 _ _ z)
/-- a new note -/
def rNk (K : PySem.W.Frag) : List V → Hp → VK → Prop := fun vs H Q => ∃ n : NK, vs = [.str n.name, .str n.ware, .int n.grains, .int n.born] ∧ NkOk n ∧ ∀ p H', Ext H H' → H p = none → NoteAt K H' p n → Q (.ref p) H'
theorem rNk_imp (vs : List V) (H : Hp) (Q : VK) (h : rNk K vs H Q) (a dx : Addr) (ha : H a = none) (hd : H dx = none) (ne : dx ≠ a) :
    spNi K (.ref a :: (vs ++ [])) (upd (upd H dx (.own a)) a (.ins (CN K) dx [])) (fun v H2 => v = .non ∧ Q (.ref a) H2) C8.E0 := by
  obtain ⟨n, rfl, ok, q⟩ := h
  have e0 : Ext H (upd (upd H dx (.own a)) a (.ins (CN K) dx [])) := fun b o z => by
    rw [upd_ne (ne_of_none z ha), upd_ne (ne_of_none z hd)]
    exact z
  refine ⟨a, n, dx, rfl, ok, upd_same, fun H' k hh => ⟨rfl, ?_⟩⟩
  exact q a H' (fun b o z => k b o (ne_of_none z ha) (e0 b o z)) ha ⟨dx, hh⟩
/-! ### by_age -/
def spAgeOf (K : PySem.W.Frag) : Sp := fun vs H Q _ => ∃ p n, vs = [.ref p] ∧ NoteAt K H p n ∧ ∀ T, H T = none → Q (.ref T) (upd H T (.tup [.int n.born, .str n.name]))
theorem scAgeOf : FnScope ["note"] ["note"] (defScope (top 41)) := ⟨rfl, rfl, rfl, by decide +kernel, rfl, by decide +kernel, by decide +kernel⟩
theorem fn_ageof (Z : Wd K mg) : ∃ fd, FnOk P w K mg base C8.CX0 1 (He.ga K "age_of") fd ["note"] (spAgeOf K) ∧ Binds K fd ["note"] [] := by
  obtain ⟨fd, F⟩ := Z.d_age_of
  refine ⟨fd, F.ok scAgeOf (fun vs H Q E h => ?_) (fun cdv A outer s H vs Q E hr h => ?_), F.bindsN fun _ _ _ _ _ _ us hl => match us, hl with | [_], _ => rfl⟩
  · obtain ⟨p, n, rfl, _⟩ := h
    rfl
  · obtain ⟨p, n, rfl, ⟨dx, hp⟩, q⟩ := h
    refine ⟨_, PSs.nox (pss_one (ps_ret (pe_tup (pa_cons (pe_fld (pv 0) rfl) (pa_cons (pe_fld (pv 0) rfl) pa_nil))))), ?_⟩
    exact ⟨_, rfl, p, _, dx, _, _, rfl, hp, Z.cl_Note, Z.n_Note_born, rfl, _, rfl, p, _, dx, _, _, rfl, hp, Z.cl_Note, Z.n_Note_name, rfl, (by show 2 ≤ sizeLine; rw [sizeLine_eq]; omega), q⟩
/-- notes by age -/
def nAge (l : List (Addr × NK)) : List (Addr × NK) := l.mergeSort (PySem.W.dataLe false fun x : Addr × NK => .tuple [.int x.2.born, .str x.2.name])
def NotesAt (K : PySem.W.Frag) (H : Hp) (l : List (Addr × NK)) : Prop := ∀ x ∈ l, NoteAt K H x.1 x.2
theorem NotesAt.kp {H H' : Hp} {l : List (Addr × NK)} (h : NotesAt K H l) (e : Kp H H') : NotesAt K H' l := fun x hx => (h x hx).kp e
def spBy (K : PySem.W.Frag) : Sp := fun vs H Q _ => ∃ a l, vs = [.ref a] ∧ SqT K H a (l.map fun x : Addr × NK => V.ref x.1) ∧ NotesAt K H l ∧ ∀ p H', Ext H H' → H' p = some (.tup ((nAge l).map fun x => V.ref x.1)) → Q (.ref p) H'
theorem scBy : FnScope ["notes"] ["notes"] (defScope (top 42)) := ⟨rfl, rfl, rfl, by decide +kernel, rfl, by decide +kernel, by decide +kernel⟩
theorem ok_by (Z : Wd K mg) : C8.Cal P w K mg base 4 "by_age" (spBy K) [] := by
  refine cal (st := top 42) Z.d_by_age Z.g_by_age scBy (fun vs H Q E h => ?_) (fun _ _ _ _ _ _ us hl => match us, hl with | [_], _ => rfl) fun cdv A outer s H vs Q E hr h => ?_
  · obtain ⟨a, l, rfl, _⟩ := h
    rfl
  · obtain ⟨a, l, rfl, hs, hn, q⟩ := h
    obtain ⟨fdA, FA, bA⟩ := fn_ageof (P := P) (w := w) (base := base) Z
    refine ⟨_, PSs.nox (pss_one (ps_ret (pe_callTy call_tuple_of (by rfl) Z.f_tuple (by decide +kernel) (pa_cons (pe_sortDef (k := 1) (by rfl) Z.f_sorted (pv 0) (by rfl) Z.g_age_of FA bA (hr.mono (by decide))) pa_nil)))), ?_⟩
    refine ⟨_, rfl, a, Addr × NK, l, fun x => .ref x.1, fun x => .int x.2.born, fun x => .str x.2.name, fun x => .int x.2.born, fun x => .str x.2.name, rfl, hs, fun _ _ => rfl, fun _ _ => rfl, PySem.W.AllAlike.of fun _ _ => rfl, ?_, fun p H1 ex hp => ?_⟩
    · intro x hx H' e
      exact ⟨x.1, x.2, rfl, (hn x hx).kp (Kp.of e), fun T nT => ⟨T, rfl, Ext.upd nT, upd_same⟩⟩
    · exact ⟨p, _, rfl, .inl ⟨SqL.of hp, fun T nT => q T _ (ex.trans (Ext.upd nT)) upd_same⟩⟩
/-! ### grains_of -/
def gsum (l : List (Addr × NK)) : Int := (l.map fun x => x.2.grains).sum
def spGr (K : PySem.W.Frag) : Sp := fun vs H Q _ => ∃ a l, vs = [.ref a] ∧ SqT K H a (l.map fun x : Addr × NK => V.ref x.1) ∧ NotesAt K H l ∧ l.length ≤ 1000 ∧ ∀ H', Ext H H' → Q (.int (gsum l)) H'
theorem scGr : FnScope ["notes", "note"] ["notes"] (defScope (top 43)) := ⟨rfl, rfl, rfl, by decide +kernel, rfl, by decide +kernel, by decide +kernel⟩
theorem ok_gr (Z : Wd K mg) : C8.Cal P w K mg base 1 "grains_of" (spGr K) [] := by
  refine cal (st := top 43) Z.d_grains_of Z.g_grains_of scGr (fun vs H Q E h => ?_) (fun _ _ _ _ _ _ us hl => match us, hl with | [_], _ => rfl) fun cdv A outer s H vs Q E hr h => ?_
  · obtain ⟨a, l, rfl, _⟩ := h
    rfl
  · obtain ⟨a, l, rfl, hs, hn, hl, q⟩ := h
    refine ⟨_, PSs.nox (pss_one (ps_ret (pe_callB (cr_sum rfl) (by rfl) Z.f_sum (by decide +kernel) (pa_cons (pe_lc (own := [("note", 1)]) (g := gName 1) (tt := tYes) rfl scGr.nd (pi_tup (pv 0)) (blkOk_by (own := [("note", 1)]) (N := ["notes", "note"]) (sc := defScope (top 43)) (by decide +kernel))
      (fun _ _ _ _ _ => pg_name (i := 1) scGr.nd rfl (Or.inl rfl)) (fun _ _ _ _ _ => pts_nil) (fun _ _ _ _ _ => pe_fldK (K := K) rfl (pv 1) (by rfl))) pa_nil)))), ?_⟩
    refine ⟨_, rfl, a, rfl, ⟨_, hs⟩, fun D nD => lc_it (walk_tup (xs := l.map fun x : Addr × NK => V.ref x.1)) (fun i H1 => Ext H H1 ∧ H1 D = some (.lst (((l.take i).map fun x => x.2.grains).map V.int))) ⟨Ext.upd nD, upd_same⟩ (fun i H1 _ p => hs.ext p.1) (fun i x H1 H2 hi p y => ?_) fun H1 p => ?_⟩
    · obtain ⟨rfl, hx⟩ := y
      rw [List.getElem?_map] at hx
      obtain ⟨u, hu, rfl⟩ := Option.map_eq_some_iff.mp hx
      obtain ⟨dx, hux⟩ := (hn u (List.mem_of_getElem? hu)).kp (Kp.of p.1)
      refine ⟨rfl, _, rfl, u.1, _, dx, _, _, rfl, hux, Z.cl_Note, Z.n_Note_grains, rfl, _, p.2, ?_, Ext.put p.1 nD, ?_⟩
      · rw [List.length_map, List.length_map, List.length_take, sizeLine_eq]
        omega
      · rw [upd_same, take_snoc hu, List.map_append, List.map_append]
        rfl
    · refine ⟨D, _, rfl, SqL.of p.2, ?_⟩
      rw [List.length_map, List.take_length]
      exact q H1 p.1
end
end K34
set_option Elab.async false
set_option linter.all false
set_option maxRecDepth 100000
set_option maxHeartbeats 4000000
/-! K34D7: casks made, notes drawn and made. -/
namespace K34
open PySem PySem.Spec PyProof.Rows L2
/-- the cask that is made -/
def rpP (p : RP) : Str × Rat := (p.ware, Rat.divInt p.t p.b)
def ckOf (k : RK) : CK := ⟨k.fig, k.since, k.parts.map rpP⟩
theorem rp_sz {p : RP} (h : RpOk p) : 0 < (rpP p).2 ∧ Sz 20 (rpP p).2 := by
  have h1 := h.t1
  have h2 := h.t2
  have h3 := h.b1
  have h4 := h.b2
  have e20 : (2 : Nat) ^ 20 = 1048576 := by decide
  refine ⟨?_, Sz.mk (by omega) (by omega) (by omega)⟩
  show 0 < Rat.divInt p.t p.b
  have z : 0 ≤ Rat.divInt p.t p.b := Rat.num_nonneg.mp (by
    rw [(num_mk p.t p.b (by omega)).1]
    exact Int.ediv_nonneg (by omega) (by omega))
  have nz : Rat.divInt p.t p.b ≠ 0 := fun e => by
    have e' : (p.t : Rat) / (p.b : Rat) = 0 := by
      rw [← Rat.divInt_eq_div]
      exact e
    have b0 : (p.b : Rat) ≠ 0 := fun y => by
      have := Rat.intCast_eq_zero_iff.mp y
      omega
    have t0 : (p.t : Rat) = 0 := by grind
    have := Rat.intCast_eq_zero_iff.mp t0
    omega
  grind
theorem ckOf_ok {k : RK} (h : RkOk k) : CkOk (ckOf k) ∧ ∀ p ∈ (ckOf k).parts, Sz 20 p.2 := by
  have key : ∀ p ∈ k.parts.map rpP, NameOk p.1 ∧ 0 < p.2 ∧ Sz 20 p.2 := fun p hp => by
    obtain ⟨r, hr, rfl⟩ := List.mem_map.mp hp
    obtain ⟨a, b⟩ := rp_sz (h.ok r hr)
    exact ⟨h.name r hr, a, b⟩
  refine ⟨⟨h.fig, h.d0, h.d1, ⟨?_, fun p hp => (key p hp).1, fun p hp => (key p hp).2.1, fun p hp => (key p hp).2.2.mono (by decide), ?_⟩⟩, fun p hp => (key p hp).2.2⟩
  · show (k.parts.map rpP).length ≤ 4
    rw [List.length_map]
    exact h.few
  · exact List.pairwise_map.mpr h.up
section
variable {P : Program} {w : World} {K : PySem.W.Frag} {mg : Str → Option Value} {base : Heap}
def spMade (K : PySem.W.Frag) : Sp := fun vs H Q _ => ∃ c k, vs = [.ref c] ∧ RKAt H c k ∧ RkOk k ∧ ∀ p H', Ext H H' → H p = none → CaskAt K H' p (ckOf k) → Q (.ref p) H'
abbrev nsMd : List Str := ["_law_cask", "_law_mark", "_law_since", "_law_parts", "_law_ware", "_law_top", "_law_bottom"]
theorem scMade : FnScope nsMd ["_law_cask"] (defScope (top 57)) := ⟨rfl, rfl, rfl, by decide +kernel, rfl, by decide +kernel, by decide +kernel⟩
theorem ok_made (Z : Wd K mg) : C8.Cal P w K mg base 6 "_law_made" (spMade K) [] := by
  refine cal (st := top 57) Z.d__law_made Z.g__law_made scMade (fun vs H Q E h => ?_) (fun _ _ _ _ _ _ us hl => match us, hl with | [_], _ => rfl) fun cdv A outer s H vs Q E hr h => ?_
  · obtain ⟨c, k, rfl, _⟩ := h
    rfl
  · obtain ⟨c, k, rfl, ⟨l, ps, hc, hl, hp⟩, ok, q⟩ := h
    refine ⟨_, PSs.nox (pss_cons (ps_asg (pv 0) (pg_tup rfl (pgs_cons (pg_name (i := 1) scMade.nd rfl (Or.inl rfl)) (pgs_cons (pg_name (i := 2) scMade.nd rfl (Or.inl rfl)) (pgs_cons (pg_name (i := 3) scMade.nd rfl (Or.inl rfl)) pgs_nil)))))
      (pss_one (ps_ret (pe_mkI (mak_c (P := P) (w := w) (base := base) Z) hr (by decide) (by rfl) rCk_imp (pa_cons (pv 1) (pa_cons (pv 2) (pa_cons (pe_callTy call_tuple_of (by rfl) Z.f_tuple (by decide +kernel) (pa_cons
        (pe_lc (own := [("_law_ware", 4), ("_law_top", 5), ("_law_bottom", 6)]) (g := gTup K 2 (gCons (gName 4) (gCons (gTup K 2 (gCons (gName 5) (gCons (gName 6) gNil))) gNil))) (tt := tYes) rfl scMade.nd (pi_list (pv 3)) (blkOk_by (own := [("_law_ware", 4), ("_law_top", 5), ("_law_bottom", 6)]) (N := nsMd) (sc := defScope (top 57)) (by decide +kernel))
          (fun _ _ _ _ _ => pg_tup rfl (pgs_cons (pg_name (i := 4) scMade.nd rfl (Or.inl rfl)) (pgs_cons (pg_tup rfl (pgs_cons (pg_name (i := 5) scMade.nd rfl (Or.inl rfl)) (pgs_cons (pg_name (i := 6) scMade.nd rfl (Or.inl rfl)) pgs_nil))) pgs_nil))) (fun _ _ _ _ _ => pts_nil)
          (fun _ _ _ _ _ => pe_tup (pa_cons (pv 4) (pa_cons (pe_mkI (mak_w (P := P) (w := w) (base := base) Z) hr (by decide) (by rfl) rW_imp (pa_cons (pv 5) (pa_cons (pv 6) pa_nil))) pa_nil)))) pa_nil)) pa_nil))))))), ?_⟩
    refine ⟨_, rfl, c, _, rfl, SqT.of hc, rfl, _, _, rfl, _, _, rfl, _, _, rfl, rfl, ?_⟩
    refine ⟨_, rfl, _, rfl, _, rfl, l, rfl, ⟨_, SqL.of hl⟩, fun D nD => lc_it (walk_list (xs := ps.map V.ref)) (fun i H1 => Ext H H1 ∧ ∃ ts : List Addr, H1 D = some (.lst (ts.map V.ref)) ∧ Paired (PartAt K H1) ts ((k.parts.take i).map rpP)) ⟨Ext.upd nD, [], upd_same, .nil⟩ (fun i H1 _ p => SqL.of (p.1 _ _ hl)) (fun i x H1 H2 hi p y => ?_) fun H1 p => ?_⟩
    · obtain ⟨e, ts, hD, hts⟩ := p
      obtain ⟨rfl, hx⟩ := y
      rw [List.getElem?_map] at hx
      obtain ⟨u, hu, rfl⟩ := Option.map_eq_some_iff.mp hx
      obtain ⟨rp, hrp, v, hv, hv2⟩ := paired_get hp hu
      have o := ok.ok rp (List.mem_of_getElem? hrp)
      have o1 := o.t1
      have o2 := o.t2
      have o3 := o.b1
      have o4 := o.b2
      have e20 : (2 : Nat) ^ 20 = 1048576 := by decide
      have zt : rp.t.natAbs < 2 ^ 20 := by omega
      have zb : rp.b.natAbs < 2 ^ 20 := by omega
      refine ⟨u, _, rfl, SqT.of (e _ _ hv), rfl, _, _, rfl, _, _, rfl, ⟨v, _, rfl, SqT.of (e _ _ hv2), rfl, _, _, rfl, _, _, rfl, rfl, rfl, rfl, ?_⟩⟩
      refine ⟨_, rfl, _, rfl, _, rfl, rp.t, rp.b, rfl, by omega, by omega, pow_lt zt (by decide), pow_lt zb (by decide), fun p H3 e3 np wp => ⟨(by show 2 ≤ sizeLine; rw [sizeLine_eq]; omega), fun T nT => ?_⟩⟩
      have hD3 := e3 _ _ hD
      have nTD : D ≠ T := ne_of_none hD3 nT
      have hD4 := (upd_ne (o := .tup [.str rp.ware, .ref p]) (H := H3) nTD).trans hD3
      have kp : Kp H3 (upd (upd H3 T (.tup [.str rp.ware, .ref p])) D (.lst (ts.map V.ref ++ [.ref T]))) := (Kp.new nT).trans (Kp.put hD4)
      refine ⟨_, hD4, ?_, Ext.put ((e.trans e3).trans (Ext.upd nT)) nD, ts ++ [T], ?_, ?_⟩
      · have l1 := Paired.length hts
        have few := ok.few
        rw [List.length_map, List.length_take] at l1
        rw [List.length_map, sizeLine_eq]
        omega
      · rw [upd_same, List.map_append]
        rfl
      · rw [take_snoc hrp, List.map_append]
        refine paired_snoc ⟨p, ?_, wp.kp kp⟩ (paired_mono (fun _ _ y => (y.kp (Kp.of e3)).kp kp) hts)
        rw [upd_ne (Ne.symm nTD), upd_same]
        rfl
    · obtain ⟨e, ts, hD, hts⟩ := p
      rw [List.length_map, Paired.length hp, List.take_length] at hts
      obtain ⟨ck, _⟩ := ckOf_ok ok
      refine ⟨D, _, rfl, .inl ⟨SqL.of hD, fun T nT => ?_⟩⟩
      exact ⟨k.fig, k.since, T, k.parts.map rpP, rfl, ck.fig, ck.d0, ck.d1, ⟨ts, upd_same, paired_mono (fun _ _ y => y.kp (Kp.new nT)) hts⟩, ck.parts, fun p H' e' np cp => q p H' ((e.trans (Ext.upd nT)).trans e') (fresh_of (e.trans (Ext.upd nT)) np) cp⟩
/-! ### notes -/
def NTAt (H : Hp) (u : Addr) (n : NK) : Prop := H u = some (.tup [.str n.name, .str n.ware, .int n.grains, .int n.born])
theorem NTAt.kp {H H' : Hp} {u : Addr} {n : NK} (h : NTAt H u n) (e : Kp H H') : NTAt H' u n := e _ _ h (fun _ z => by cases z) (fun _ z => by cases z)
def spNt (K : PySem.W.Frag) : Sp := fun vs H Q _ => ∃ u n, vs = [.ref u] ∧ NTAt H u n ∧ NkOk n ∧ ∀ p H', Ext H H' → H p = none → NoteAt K H' p n → Q (.ref p) H'
theorem scNt : FnScope ["_law_note_here"] ["_law_note_here"] (defScope (top 60)) := ⟨rfl, rfl, rfl, by decide +kernel, rfl, by decide +kernel, by decide +kernel⟩
theorem ok_nt (Z : Wd K mg) : C8.Cal P w K mg base 5 "_law_note" (spNt K) [] := by
  refine cal (st := top 60) Z.d__law_note Z.g__law_note scNt (fun vs H Q E h => ?_) (fun _ _ _ _ _ _ us hl => match us, hl with | [_], _ => rfl) fun cdv A outer s H vs Q E hr h => ?_
  · obtain ⟨u, n, rfl, _⟩ := h
    rfl
  · obtain ⟨u, n, rfl, hu, ok, q⟩ := h
    refine ⟨_, PSs.nox (pss_one (ps_ret (pe_mkI (mak_n (P := P) (w := w) (base := base) Z) hr (by decide) (by rfl) rNk_imp (pa_cons (pe_ix ix_tup (pv 0) pe_int (fun _ _ => rfl)) (pa_cons (pe_ix ix_tup (pv 0) pe_int (fun _ _ => rfl)) (pa_cons (pe_ix ix_tup (pv 0) pe_int (fun _ _ => rfl)) (pa_cons (pe_ix ix_tup (pv 0) pe_int (fun _ _ => rfl)) pa_nil))))))), ?_⟩
    exact ⟨_, rfl, u, _, 0, .str n.name, rfl, rfl, SqT.of hu, atI_nat (j := 0) rfl, _, rfl, u, _, 1, .str n.ware, rfl, rfl, SqT.of hu, atI_nat (j := 1) rfl, _, rfl, u, _, 2, .int n.grains, rfl, rfl, SqT.of hu, atI_nat (j := 2) rfl,
      _, rfl, u, _, 3, .int n.born, rfl, rfl, SqT.of hu, atI_nat (j := 3) rfl, n, rfl, ok, q⟩
def spNs : Sp := fun vs H Q _ => ∃ (d : Addr) (z : Str) (N : Nat), vs = [.ref d, .str z, .int 8] ∧ NameOk z ∧ DeckAt H d N ∧ N ≤ 2 ^ 38 ∧
  ∀ p H' (us : List Addr) (ns : List NK), EB d H H' → DeckAt H' d (N + 100) → H p = none → H' p = some (.lst (us.map V.ref)) → Paired (NTAt H') us ns → ns.length ≤ 8 → (ns.map (·.name)).Nodup → (∀ n ∈ ns, NkOk n) → Q (.ref p) H'
abbrev nsNs : List Str := ["_law_deck_here", "_law_ware", "_law_most", "_law_many", "_law_far", "_law_names_here", "_law_days", "_law_found", "_law_k"]
theorem scNs : FnScope nsNs ["_law_deck_here", "_law_ware", "_law_most"] (defScope (top 59)) := ⟨rfl, rfl, rfl, by decide +kernel, rfl, by decide +kernel, by decide +kernel⟩
theorem ok_ns (Z : Wd K mg) : C8.Cal P w K mg base 3 "_law_notes" spNs [] := by
  refine cal (st := top 59) Z.d__law_notes Z.g__law_notes scNs (fun vs H Q E h => ?_) (fun _ _ _ _ _ _ us hl => match us, hl with | [_, _, _], _ => rfl) fun cdv A outer s H vs Q E hr h => ?_
  · obtain ⟨d, z, N, rfl, _⟩ := h
    rfl
  · obtain ⟨d, z, N, rfl, zok, dk, hN, q⟩ := h
    have cD := ok_draw (P := P) (w := w) (base := base) Z
    have cY := ok_dy (P := P) (w := w) (base := base) Z
    have cN := ok_names (P := P) (w := w) (base := base) Z
    refine ⟨_, PSs.nox (pss_cons (ps_set (i := 3) scNs.nd rfl (.inl rfl) (pe_ix ix_list (pe_lst (pa_cons (C8.pe_c cD hr (by decide) (by rfl) (pa_cons (pv 0) (pa_cons pe_int pa_nil))) (pa_cons (pv 2) pa_nil)))
        (pe_callTy call_int1 (by rfl) Z.f_int (by decide +kernel) (pa_cons (pe_cmpR op_eq (C8.pe_c cD hr (by decide) (by rfl) (pa_cons (pv 0) (pa_cons pe_int pa_nil))) pe_int (nomark _)) pa_nil)) (fun _ _ => rfl)))
      (pss_cons (ps_set (i := 4) scNs.nd rfl (.inl rfl) (pe_ix ix_list (pe_lst (pa_cons pe_int (pa_cons pe_int (pa_cons pe_int (pa_cons (pe_op op_pow pe_int pe_int) pa_nil))))) (C8.pe_c cD hr (by decide) (by rfl) (pa_cons (pv 0) (pa_cons pe_int pa_nil))) (fun _ _ => rfl)))
      (pss_cons (ps_set (i := 5) scNs.nd rfl (.inl rfl) (C8.pe_c cN hr (by decide) (by rfl) (pa_cons (pv 0) (pa_cons (pv 3) pa_nil))))
      (pss_cons (ps_set (i := 6) scNs.nd rfl (.inl rfl) (pe_lst (pa_cons (C8.pe_c cY hr (by decide) (by rfl) (pa_cons (pv 0) pa_nil)) (pa_cons (C8.pe_c cY hr (by decide) (by rfl) (pa_cons (pv 0) pa_nil)) (pa_cons pe_int pa_nil)))))
      (pss_cons (ps_set (i := 7) scNs.nd rfl (.inl rfl) (pe_lst pa_nil))
      (pss_cons (ps_for PassesOwn.never rfl (pi_range1 (by rfl) Z.f_range (pa_cons (pv 3) pa_nil)) (pg_name (i := 8) scNs.nd rfl (Or.inl rfl))
        (pss_one (ps_expr (pe_bm PySem.F.plainAttrs_list PySem.F.slot_list_append PySem.F.type_list_append mt_append (pv 7) (pa_cons (pe_tup
          (pa_cons (pe_bm PySem.F.plainAttrs_list PySem.F.slot_list_pop PySem.F.type_list_pop mt_popAt (pv 5) (pa_cons (C8.pe_c cD hr (by decide) (by rfl) (pa_cons (pv 0) (pa_cons (pe_callB call_len_seq (by rfl) Z.f_len PySem.boot_len (pa_cons (pv 5) pa_nil)) pa_nil))) pa_nil))
          (pa_cons (pv 1) (pa_cons (pe_op op_add pe_int (C8.pe_c cD hr (by decide) (by rfl) (pa_cons (pv 0) (pa_cons (pv 4) pa_nil)))) (pa_cons (pe_ix ix_list (pv 6) (C8.pe_c cD hr (by decide) (by rfl) (pa_cons (pv 0) (pa_cons pe_int pa_nil))) (fun _ _ => rfl)) pa_nil))))) pa_nil)))))
      (pss_one (ps_ret (pv 7))))))))), ?_⟩
    have e38 : (2 : Nat) ^ 38 = 274877906944 := by decide
    have e39 : (2 : Nat) ^ 39 = 549755813888 := by decide
    have e40 : (2 : Nat) ^ 40 = 1099511627776 := by decide
    refine ⟨_, rfl, d, 5, N, rfl, by decide, by decide, dk, by omega, fun r1 H1 r10 r11 e1 dk1 => ⟨_, rfl, (by show 2 ≤ sizeLine; rw [sizeLine_eq]; omega), fun L nL => ?_⟩⟩
    have nLd := dk1.new nL
    refine ⟨_, rfl, d, 8, N + 1, rfl, by decide, by decide, dk1.upd nLd, by omega, fun r2 H2 _ _ e2 dk2 => ⟨rfl, .inr ⟨_, rfl, ?_⟩⟩⟩
    obtain ⟨gr, hgr, gr2⟩ : ∃ gr : Int, (if decide (V.int r2 = V.int 5) = true then (1 : Int) else 0) = gr ∧ (gr = 0 ∨ gr = 1) := by
      split
      · exact ⟨1, rfl, .inr rfl⟩
      · exact ⟨0, rfl, .inl rfl⟩
    rw [hgr]
    have hL2 := e2 _ _ (Ne.symm nLd) upd_same
    obtain ⟨m, hm, hm2⟩ : ∃ m : Nat, atI [V.int r1, .int 8] gr = some (.int m) ∧ m ≤ 8 := by
      obtain ⟨k, rfl⟩ := Int.eq_ofNat_of_zero_le r10
      rcases gr2 with rfl | rfl
      · exact ⟨k, atI_nat (j := 0) rfl, by omega⟩
      · exact ⟨8, atI_nat (j := 1) rfl, by omega⟩
    refine ⟨L, _, gr, _, rfl, rfl, SqL.of hL2, hm, ?_⟩
    have eH2 : EB d H H2 := (e1.trans (EB.of (Ext.upd nL))).trans e2
    refine ⟨_, _, rfl, rfl, ⟨by decide, by decide, by decide⟩, (by show 4 ≤ sizeLine; rw [sizeLine_eq]; omega), fun L2' nL2 => ?_⟩
    have nL2d := dk2.new nL2
    refine ⟨_, rfl, d, 4, N + 1 + 1, rfl, by decide, by decide, dk2.upd nL2d, by omega, fun r3 H3 _ _ e3 dk3 => ?_⟩
    obtain ⟨fr, hfr, fr1, fr2⟩ : ∃ fr : Int, atI [V.int 9, .int 9, .int 40, .int (10 ^ (6 : Int).toNat)] r3 = some (.int fr) ∧ 1 ≤ fr ∧ fr ≤ 1000000 := by
      rcases (show r3 = 0 ∨ r3 = 1 ∨ r3 = 2 ∨ r3 = 3 by omega) with rfl | rfl | rfl | rfl
      · exact ⟨9, atI_nat (j := 0) rfl, by decide, by decide⟩
      · exact ⟨9, atI_nat (j := 1) rfl, by decide, by decide⟩
      · exact ⟨40, atI_nat (j := 2) rfl, by decide, by decide⟩
      · exact ⟨1000000, atI_nat (j := 3) rfl, by decide, by decide⟩
    refine ⟨L2', _, r3, _, rfl, rfl, SqL.of (e3 _ _ (Ne.symm nL2d) upd_same), hfr, ?_⟩
    have eH3 : EB d H H3 := (eH2.trans (EB.of (Ext.upd nL2))).trans e3
    refine ⟨_, rfl, _, rfl, d, m, N + 1 + 1 + 1, rfl, hm2, dk3, by omega, fun M H4 zs e4 dk4 nM hM lz ndz okz => ?_⟩
    have nMd := dk3.new nM
    have eH4 := eH3.trans e4
    have nMH : H M = none := EB.none eH3 dk ⟨_, dk3⟩ nM
    refine ⟨_, rfl, d, N + 1 + 1 + 1 + 12, rfl, dk4, by omega, fun y1 H5 y10 y11 e5 dk5 => ?_⟩
    refine ⟨_, rfl, d, N + 1 + 1 + 1 + 12 + 4, rfl, dk5, by omega, fun y2 H6 y20 y21 e6 dk6 => ⟨(by show 3 ≤ sizeLine; rw [sizeLine_eq]; omega), fun Dy nDy => ?_⟩⟩
    have nDyd := dk6.new nDy
    refine ⟨by decide, fun F nF => ?_⟩
    have nFd := (dk6.upd nDyd).new nF
    have eH6 : EB d H H6 := (eH4.trans e5).trans e6
    have hM6 := e6 _ _ (Ne.symm nMd) (e5 _ _ (Ne.symm nMd) hM)
    have nMDy : M ≠ Dy := ne_of_none hM6 nDy
    have hM7 := (upd_ne (o := .lst [.int y1, .int y2, .int 0]) (H := H6) nMDy).trans hM6
    have nMF : M ≠ F := ne_of_none hM7 nF
    have nDF : Dy ≠ F := ne_of_none upd_same nF
    have eH7 : EB d H (upd H6 Dy (.lst [.int y1, .int y2, .int 0])) := eH6.trans (EB.of (Ext.upd nDy))
    have nFH : H F = none := EB.none eH7 dk ⟨_, dk6.upd nDyd⟩ nF
    refine ⟨_, rfl, (m : Nat), rfl, by omega, by omega, for_it (walk_range (lo := 0) (n := ((m : Nat) : Int).toNat)) (fun i σ H8 => (∃ a, σ = [some (.ref d), some (.str z), some (.int 8), some (.int m), some (.int fr), some (.ref M), some (.ref Dy), some (.ref F), a]) ∧ EB d H H8 ∧ DeckAt H8 d (N + 40 + 3 * i) ∧ H8 Dy = some (.lst [.int y1, .int y2, .int 0]) ∧
        ∃ (rest : List Str) (us : List Addr) (ns : List NK), H8 M = some (.lst (rest.map V.str)) ∧ H8 F = some (.lst (us.map V.ref)) ∧ Paired (NTAt H8) us ns ∧ (ns.map (·.name) ++ rest).Perm zs ∧ ns.length = i ∧ ∀ n ∈ ns, NkOk n)
      ⟨⟨none, rfl⟩, eH7.put nFH, ((dk6.upd nDyd).upd nFd).mono (by omega), (upd_ne nDF).trans upd_same, zs, [], [], (upd_ne nMF).trans hM7, upd_same, .nil, List.Perm.refl _, rfl, fun n hn => by cases hn⟩ (fun _ _ _ _ _ => trivial) (fun i x σ H8 H9 hi p y => ?_) fun σ H8 p => ?_⟩
    · obtain ⟨⟨a, rfl⟩, e8, dk8, hDy8, rest, us, ns, hM8, hF8, hns, pm, ln, okn⟩ := p
      obtain ⟨rfl, rfl⟩ := y
      have hi' : i < m := by simpa using hi
      have lr : rest.length + i = m := by
        have := pm.length_eq
        rw [List.length_append, List.length_map, ln, lz] at this
        omega
      refine ⟨_, rfl, .inl ⟨rfl, _, SqL.of hF8⟩, _, rfl, .inl ⟨rfl, _, SqL.of hM8⟩, _, rfl, _, rfl, M, _, rfl, .inl (SqL.of hM8), d, _, N + 40 + 3 * i, rfl, ?_, ?_, dk8, by omega, fun r H10 h0 h1 e10 dk10 => ?_⟩
      · rw [List.length_map]
        omega
      · rw [List.length_map]
        omega
      rw [List.length_map] at h1
      obtain ⟨k, rfl⟩ := Int.eq_ofNat_of_zero_le h0
      have hk : k < rest.length := by omega
      have hM10 := e10 _ _ (Ne.symm nMd) hM8
      have hF10 := e10 _ _ (Ne.symm nFd) hF8
      have hDy10 := e10 _ _ (Ne.symm nDyd) hDy8
      have pe := eraseIdx_perm (List.getElem?_eq_getElem hk)
      have zk : NameOk rest[k] := okz _ (pm.mem_iff.mp (List.mem_append_right _ (List.getElem_mem hk)))
      refine ⟨M, _, k, k, V.str rest[k], rfl, rfl, hM10, by omega, by omega, ?_, ?_, ?_⟩
      · unfold seqIndex?
        rw [List.length_map]
        simp [hk, show ¬ (k : Int) < 0 by omega]
      · rw [List.getElem?_map, List.getElem?_eq_getElem hk]
        rfl
      have hF11 := (upd_ne (o := .lst ((rest.map V.str).eraseIdx k)) (H := H10) (Ne.symm nMF)).trans hF10
      have hDy11 := (upd_ne (o := .lst ((rest.map V.str).eraseIdx k)) (H := H10) (Ne.symm nMDy)).trans hDy10
      have dk11 : DeckAt (upd H10 M (.lst ((rest.map V.str).eraseIdx k))) d (N + 40 + 3 * i + 1) := dk10.upd nMd
      refine ⟨_, rfl, _, rfl, _, rfl, d, fr, _, rfl, fr1, fr2, dk11, by omega, fun g H12 g0 g1 e12 dk12 => ⟨_, _, rfl, rfl, ?_⟩⟩
      refine ⟨_, rfl, _, rfl, d, 3, _, rfl, by decide, by decide, dk12, by omega, fun r' H13 r0' r1' e13 dk13 => ?_⟩
      obtain ⟨dy, hdy, dy0, dy1⟩ : ∃ dy : Int, atI [V.int y1, .int y2, .int 0] r' = some (.int dy) ∧ 0 ≤ dy ∧ dy ≤ 1200 := by
        rcases (show r' = 0 ∨ r' = 1 ∨ r' = 2 by omega) with rfl | rfl | rfl
        · exact ⟨y1, atI_nat (j := 0) rfl, y10, y11⟩
        · exact ⟨y2, atI_nat (j := 1) rfl, y20, y21⟩
        · exact ⟨0, atI_nat (j := 2) rfl, by decide, by decide⟩
      have hDy13 := e13 _ _ (Ne.symm nDyd) (e12 _ _ (Ne.symm nDyd) hDy11)
      have hF13 := e13 _ _ (Ne.symm nFd) (e12 _ _ (Ne.symm nFd) hF11)
      have hM13 := e13 _ _ (Ne.symm nMd) (e12 _ _ (Ne.symm nMd) (upd_same (H := H10) (a := M) (o := .lst ((rest.map V.str).eraseIdx k))))
      refine ⟨Dy, _, r', _, rfl, rfl, SqL.of hDy13, hdy, (by show 4 ≤ sizeLine; rw [sizeLine_eq]; omega), fun T nT => ?_⟩
      have nTd := dk13.new nT
      have nTF : F ≠ T := ne_of_none hF13 nT
      have nTM : M ≠ T := ne_of_none hM13 nT
      have nTDy : Dy ≠ T := ne_of_none hDy13 nT
      have hF14 := (upd_ne (o := .tup [.str rest[k], .str z, .int (1 + g), .int dy]) (H := H13) nTF).trans hF13
      have kpA : Kp H9 H13 := (((e10.kp dk8).trans (Kp.put hM10)).trans (e12.kp dk11)).trans (e13.kp dk12)
      have kp : Kp H9 (upd (upd H13 T (.tup [.str rest[k], .str z, .int (1 + g), .int dy])) F (.lst (us.map V.ref ++ [.ref T]))) := (kpA.trans (Kp.new nT)).trans (Kp.put hF14)
      refine ⟨F, _, _, rfl, rfl, hF14, ?_, ⟨_, rfl⟩, ((((((e8.trans e10).put nMH).trans e12).trans e13).trans (EB.of (Ext.upd nT)))).put nFH, ((dk13.upd nTd).upd nFd).mono (by omega), ?_, rest.eraseIdx k, us ++ [T], ns ++ [⟨rest[k], z, 1 + g, dy⟩], ?_, ?_, ?_, ?_, ?_, ?_⟩
      · have l1 := Paired.length hns
        rw [List.length_map, sizeLine_eq]
        omega
      · rw [upd_ne nDF, upd_ne nTDy]
        exact hDy13
      · rw [upd_ne nMF, upd_ne nTM, hM13, erase_map]
      · rw [upd_same, List.map_append]
        rfl
      · refine paired_snoc ?_ (paired_mono (fun _ _ y => NTAt.kp y kp) hns)
        show upd (upd H13 T _) F _ T = _
        rw [upd_ne (Ne.symm nTF), upd_same]
      · rw [List.map_append, List.append_assoc]
        exact (List.Perm.append_left _ pe).trans pm
      · rw [List.length_append, ln]
        rfl
      · intro n hn
        rcases List.mem_append.mp hn with y | y
        · exact okn n y
        · rw [List.mem_singleton.mp y]
          have e20 : (2 : Int) ^ 20 = 1048576 := by decide
          exact ⟨zk, zok, (by show 1 ≤ 1 + g; omega), (by show 1 + g < 2 ^ 20; omega), dy0, dy1⟩
    · obtain ⟨⟨a, rfl⟩, e8, dk8, hDy8, rest, us, ns, hM8, hF8, hns, pm, ln, okn⟩ := p
      rw [Int.toNat_natCast] at ln dk8
      have lr : rest = [] := by
        have := pm.length_eq
        rw [List.length_append, List.length_map, ln, lz] at this
        exact List.eq_nil_of_length_eq_zero (by omega)
      rw [lr, List.append_nil] at pm
      exact ⟨_, rfl, q F H8 us ns e8 (dk8.mono (by omega)) nFH hF8 hns (by omega) (pm.nodup_iff.mpr ndz) okn⟩
end
end K34
set_option Elab.async false
set_option linter.all false
set_option maxRecDepth 100000
set_option maxHeartbeats 2000000
/-! K34S: shares_of. -/
namespace K34
open PySem PySem.Spec PyProof.Rows L2
theorem num_den (q : Rat) : q = (q.num : Rat) / ((q.den : Int) : Rat) := by
  have z := Rat.num_divInt_den q
  rw [Rat.divInt_eq_div] at z
  exact z.symm
theorem cast_ne {i : Int} (h : i ≠ 0) : ((i : Int) : Rat) ≠ 0 := fun z => h (Rat.intCast_eq_zero_iff.mp z)
theorem num_pos {q : Rat} (h : 0 < q) : 0 < q.num := by
  have h1 := Rat.num_nonneg.mpr (Rat.le_of_lt h)
  have h2 : q.num ≠ 0 := fun z => by
    rw [Rat.num_eq_zero.mp z] at h
    exact absurd h (by decide)
  omega
theorem share_val (loss v : Rat) (g : Int) (hv : 0 < v) : loss * ((g * (v.den : Int) : Int) : Rat) / ((v.num : Int) : Rat) = loss * g / v := by
  have h1 := cast_ne (show v.num ≠ 0 by have := num_pos hv; omega)
  have h2 := cast_ne (show (v.den : Int) ≠ 0 by have := v.den_pos; omega)
  have e := num_den v
  rw [Rat.intCast_mul]
  generalize ((v.num : Int) : Rat) = n at *
  generalize (((v.den : Nat) : Int) : Rat) = d at *
  subst e
  grind
theorem share_rest (loss r v : Rat) (hv : 0 < v) : loss * ((r.num * (v.den : Int) : Int) : Rat) / (((r.den : Int) * v.num : Int) : Rat) = loss * r / v := by
  have h1 := cast_ne (show v.num ≠ 0 by have := num_pos hv; omega)
  have h2 := cast_ne (show (v.den : Int) ≠ 0 by have := v.den_pos; omega)
  have h3 := cast_ne (show (r.den : Int) ≠ 0 by have := r.den_pos; omega)
  have e := num_den v
  have e2 := num_den r
  rw [Rat.intCast_mul, Rat.intCast_mul]
  generalize ((v.num : Int) : Rat) = n at *
  generalize (((v.den : Nat) : Int) : Rat) = d at *
  generalize ((r.num : Int) : Rat) = n2 at *
  generalize (((r.den : Nat) : Int) : Rat) = d2 at *
  subst e e2
  grind
def whl (stock many : Rat) : Rat := if stock < many then many else stock
def shEnt (loss v : Rat) (x : Addr × NK) : Option Str × Rat := (some x.2.name, loss * x.2.grains / v)
def many (l : List (Addr × NK)) : Rat := ((gsum l : Int) : Rat)
def shareTail (loss v m : Rat) : List (Option Str × Rat) := if v - m = 0 then [] else [(none, loss * (v - m) / v)]
def shares (loss stock : Rat) (l : List (Addr × NK)) : List (Option Str × Rat) := if loss = 0 then [] else (nAge l).map (shEnt loss (whl stock (many l))) ++ shareTail loss (whl stock (many l)) (many l)
theorem gsum_rng {l : List (Addr × NK)} (ok : ∀ x ∈ l, NkOk x.2) : 0 ≤ gsum l ∧ gsum l ≤ l.length * 2 ^ 20 := by
  induction l with
  | nil => exact ⟨by decide, by decide⟩
  | cons x l ih =>
    obtain ⟨h1, h2⟩ := ih fun y hy => ok y (List.mem_cons_of_mem _ hy)
    have h3 := ok x List.mem_cons_self
    have h4 := h3.g1
    have h5 := h3.g2
    unfold gsum at *
    rw [List.map_cons, List.sum_cons, List.length_cons]
    omega
theorem mem_nAge {l : List (Addr × NK)} {x : Addr × NK} : x ∈ nAge l ↔ x ∈ l := (List.mergeSort_perm l _).mem_iff
theorem len_nAge {l : List (Addr × NK)} : (nAge l).length = l.length := (List.mergeSort_perm l _).length_eq
section
variable {P : Program} {w : World} {K : PySem.W.Frag} {mg : Str → Option Value} {base : Heap}
/-- a share at u -/
def ShAt (K : PySem.W.Frag) (H : Hp) (u : Addr) (e : Option Str × Rat) : Prop := ∃ w, H u = some (.tup [oV e.1, .ref w]) ∧ WAt K H w e.2
theorem ShAt.kp {H H' : Hp} {u : Addr} {e : Option Str × Rat} (h : ShAt K H u e) (k : Kp H H') : ShAt K H' u e := let ⟨w, a, b⟩ := h; ⟨w, k _ _ a (fun _ z => by cases z) (fun _ z => by cases z), b.kp k⟩
def spSh (K : PySem.W.Frag) : Sp := fun vs H Q _ => ∃ (pl pt a : Addr) (loss stock : Rat) (l : List (Addr × NK)), vs = [.ref pl, .ref pt, .ref a] ∧ WAt K H pl loss ∧ WAt K H pt stock ∧ 0 ≤ loss ∧ 0 ≤ stock ∧ (loss ≠ 0 → 0 < stock) ∧ Sz 2000 loss ∧ Sz 300 stock ∧
  SqT K H a (l.map fun x : Addr × NK => V.ref x.1) ∧ NotesAt K H l ∧ (∀ x ∈ l, NkOk x.2) ∧ l.length ≤ 8 ∧
  ∀ p H' (ts : List Addr), Ext H H' → H' p = some (tE p (ts.map V.ref)) → Paired (ShAt K H') ts (shares loss stock l) → Q (.ref p) H'
theorem scSh : FnScope ["loss", "stock", "notes", "many", "whole", "found", "note", "rest"] ["loss", "stock", "notes"] (defScope (top 45)) := ⟨rfl, rfl, rfl, by decide +kernel, rfl, by decide +kernel, by decide +kernel⟩
def PvSh (K : PySem.W.Frag) (H0 : Hp) (pl pt a pm pw D : Addr) (loss mn v : Rat) (l : List (Addr × NK)) (i : Nat) (σ : L2.St) (H : Hp) : Prop :=
  (∃ n r, σ = [some (.ref pl), some (.ref pt), some (.ref a), some (.ref pm), some (.ref pw), some (.ref D), n, r]) ∧ Ext H0 H ∧ ∃ ts : List Addr, H D = some (.lst (ts.map V.ref)) ∧ Paired (ShAt K H) ts (((nAge l).take i).map (shEnt loss v))
theorem ok_sh (Z : Wd K mg) : C8.Cal P w K mg base 5 "shares_of" (spSh K) [] := by
  refine cal (st := top 45) Z.d_shares_of Z.g_shares_of scSh (fun vs H Q E h => ?_) (fun _ _ _ _ _ _ us hl => match us, hl with | [_, _, _], _ => rfl) fun cdv A outer s H vs Q E hr h => ?_
  · obtain ⟨pl, pt, a, loss, stock, l, rfl, _⟩ := h
    rfl
  · obtain ⟨pl, pt, a, loss, stock, l, rfl, wl, wt, l0, s0, ls, zl, zt, hs, hn, ok, hl, q⟩ := h
    have mN := met_nought (P := P) (w := w) (base := base) Z
    have mB := met_below (P := P) (w := w) (base := base) Z
    have mT := met_times (P := P) (w := w) (base := base) Z
    have mL := met_less (P := P) (w := w) (base := base) Z
    have cG := ok_gr (P := P) (w := w) (base := base) Z
    have cB := ok_by (P := P) (w := w) (base := base) Z
    obtain ⟨g0, g1⟩ := gsum_rng ok
    have g2 : (gsum l).natAbs < 2 ^ 24 := by
      have : (l.length : Int) * 2 ^ 20 ≤ 8 * 2 ^ 20 := Int.mul_le_mul_of_nonneg_right (by omega) (by decide)
      have e : (2 : Nat) ^ 24 = 16777216 := by decide
      have e2 : (8 : Int) * 2 ^ 20 = 8388608 := by decide
      omega
    refine ⟨_, PSs.nox (pss_cons (ps_if (pt_val (C8.pe_mt0 mN hr (by decide) (pv 0))) (pss_one (ps_ret (pe_tupE pa_nil))) pss_nil)
      (pss_cons (ps_set (i := 3) scSh.nd rfl (.inl rfl) (pe_mkI (mak_w1 (P := P) (w := w) (base := base) Z) hr (by decide) (by rfl) rW1_imp (pa_cons (C8.pe_c cG hr (by decide) (by rfl) (pa_cons (pv 2) pa_nil)) pa_nil)))
      (pss_cons (ps_set (i := 4) scSh.nd rfl (.inl rfl) (pv 1))
      (C8.pss_cut (ps_if (pt_val (C8.pe_mt mB hr (by decide) (pv 1) (pa_cons (pv 3) pa_nil))) (pss_one (ps_set (i := 4) scSh.nd rfl (.inl rfl) (pv 3))) pss_nil)
      (pss_cons (ps_set (i := 5) scSh.nd rfl (.inl rfl) (pe_lst pa_nil))
      (pss_cons (ps_for PassesOwn.never rfl (pi_tup (C8.pe_c cB hr (by decide) (by rfl) (pa_cons (pv 2) pa_nil))) (pg_name (i := 6) scSh.nd rfl (Or.inl rfl))
        (pss_one (ps_expr (pe_bm PySem.F.plainAttrs_list PySem.F.slot_list_append PySem.F.type_list_append mt_append (pv 5) (pa_cons (pe_tup (pa_cons (pe_fld (pv 6) rfl) (pa_cons (C8.pe_mt mT hr (by decide) (pv 0) (pa_cons (pe_op op_mulW (pe_fld (pv 6) rfl) (pe_fld (pv 4) rfl)) (pa_cons (pe_fld (pv 4) rfl) pa_nil))) pa_nil))) pa_nil)))))
      (pss_cons (ps_set (i := 7) scSh.nd rfl (.inl rfl) (C8.pe_mt mL hr (by decide) (pv 4) (pa_cons (pv 3) pa_nil)))
      (pss_cons (ps_if (pt_not (pt_val (C8.pe_mt0 mN hr (by decide) (pv 7)))) (pss_one (ps_expr (pe_bm PySem.F.plainAttrs_list PySem.F.slot_list_append PySem.F.type_list_append mt_append (pv 5) (pa_cons (pe_tup (pa_cons pe_non (pa_cons (C8.pe_mt mT hr (by decide) (pv 0) (pa_cons (pe_op op_mulW (pe_fld (pv 7) rfl) (pe_fld (pv 4) rfl)) (pa_cons (pe_op op_mulW (pe_fld (pv 7) rfl) (pe_fld (pv 4) rfl)) pa_nil))) pa_nil))) pa_nil)))) pss_nil)
      (pss_one (ps_ret (pe_callTy cr_tupE (by rfl) Z.f_tuple (by decide +kernel) (pa_cons (pv 5) pa_nil)))))))))))), ?_⟩
    obtain ⟨dl, wl'⟩ := id wl
    refine ⟨_, rfl, pl, dl, _, rfl, wl', rfl, pl, loss, rfl, wl, _, rfl, ?_⟩
    by_cases e0 : loss = 0
    · rw [decide_eq_true e0]
      refine iteT ⟨(by show 0 ≤ sizeLine; exact Nat.zero_le _), fun T nT => q T _ [] (Ext.upd nT) upd_same ?_⟩
      unfold shares
      rw [if_pos e0]
      exact .nil
    rw [decide_eq_false e0]
    refine iteF (nxt ?_)
    have sp0 := ls e0
    refine ⟨_, rfl, a, l, rfl, hs, hn, by omega, fun H1 e1 => ?_⟩
    refine ⟨gsum l, rfl, g0, pow_lt g2 (by decide), fun pm H2 e2 npm wm => ?_⟩
    have e12 := e1.trans e2
    have m0 : 0 ≤ many l := Rat.intCast_nonneg.mpr g0
    have zm : Sz 24 (many l) := by
      unfold many
      rw [← int_val]
      exact Sz.mk (by decide) g2 (by decide)
    refine ⟨_, rfl, ?_⟩
    have wt2 := wt.kp (Kp.of e12)
    obtain ⟨dt, wt'⟩ := id wt2
    refine ⟨fun σ' H' => H' = H2 ∧ ∃ pw, σ' = [some (.ref pl), some (.ref pt), some (.ref a), some (.ref pm), some (.ref pw), none, none, none] ∧ WAt K H2 pw (whl stock (many l)), ?_, ?_⟩
    · refine ⟨_, rfl, pt, dt, _, rfl, wt', rfl, _, rfl, pt, pm, stock, many l, 300, 24, rfl, wt2, wm, zt, zm, by decide, by decide, by decide, _, rfl, ?_⟩
      by_cases c : stock < many l
      · rw [decide_eq_true c]
        refine iteT ⟨_, rfl, rfl, pm, rfl, ?_⟩
        unfold whl
        rw [if_pos c]
        exact wm
      · rw [decide_eq_false c]
        refine iteF (nxt ⟨rfl, pt, rfl, ?_⟩)
        unfold whl
        rw [if_neg c]
        exact wt2
    rintro σ' H' ⟨rfl, pw, rfl, ww⟩
    have w3 : 0 < whl stock (many l) ∧ Sz 300 (whl stock (many l)) ∧ many l ≤ whl stock (many l) := by
      unfold whl
      by_cases c : stock < many l
      · rw [if_pos c]
        exact ⟨by grind, zm.mono (by decide), Rat.le_refl⟩
      · rw [if_neg c]
        exact ⟨sp0, zt, by grind⟩
    generalize hv : whl stock (many l) = v at *
    obtain ⟨v0, zv, mv⟩ := w3
    refine ⟨by decide, fun D nD => ?_⟩
    have nDH : H D = none := fresh_of e12 nD
    have e3 : Ext H (upd H' D (.lst [])) := Ext.put e12 nDH
    have k3 : Kp H' (upd H' D (.lst [])) := Kp.new nD
    refine ⟨_, rfl, a, l, rfl, hs.ext e3, hn.kp (Kp.of e3), fun pa H4 e4 hpa => ?_⟩
    have e34 := e3.trans e4
    refine ⟨pa, rfl, ⟨_, SqT.of hpa⟩, ?_⟩
    have ww4 := (ww.kp k3).kp (Kp.of e4)
    have wm4 := (wm.kp k3).kp (Kp.of e4)
    have wl4 := wl.kp (Kp.of e34)
    have hn4 := hn.kp (Kp.of e34)
    obtain ⟨dw, ww4'⟩ := id ww4
    obtain ⟨dl4, wl4'⟩ := id wl4
    have vn := num_pos v0
    have vd := v.den_pos
    have hD4 : H4 D = some (.lst []) := e4 _ _ upd_same
    -- the loop, told from H4: all but D stands
    refine for_it (walk_tup (xs := (nAge l).map fun x => V.ref x.1)) (fun i σ H5 => (∃ n r, σ = [some (.ref pl), some (.ref pt), some (.ref a), some (.ref pm), some (.ref pw), some (.ref D), n, r]) ∧ Ext H H5 ∧ Kp H4 H5 ∧ ∃ ts : List Addr, H5 D = some (.lst (ts.map V.ref)) ∧ Paired (ShAt K H5) ts (((nAge l).take i).map (shEnt loss v)))
      ⟨⟨none, none, rfl⟩, e34, Kp.rfl', [], hD4, .nil⟩ (fun i σ H5 _ p => SqT.of (p.2.2.1 _ _ hpa (fun _ z => by cases z) (fun _ z => by cases z))) (fun i x σ H5 H6 hi p y => ?_) fun σ H5 p => ?_
    · obtain ⟨⟨n, r, rfl⟩, e5, k5, ts, hD, hts⟩ := p
      obtain ⟨rfl, hx⟩ := y
      rw [List.getElem?_map] at hx
      obtain ⟨u, hu, rfl⟩ := Option.map_eq_some_iff.mp hx
      have um : u ∈ l := mem_nAge.mp (List.mem_of_getElem? hu)
      have uo := ok u um
      obtain ⟨dn, hun⟩ := (hn4 u um).kp k5
      have hww := k5 _ _ ww4' (fun _ z => by cases z) (fun _ z => by cases z)
      have hwl := k5 _ _ wl4' (fun _ z => by cases z) (fun _ z => by cases z)
      have g1' := uo.g1
      have g2' := uo.g2
      have zg : u.2.grains.natAbs < 2 ^ 20 := by omega
      have zt' : (u.2.grains * (v.den : Int)).natAbs < 2 ^ (20 + 300) := wide_lt zg (show (v.den : Int).natAbs < 2 ^ 300 from zv.2)
      have hlen : (ts.map V.ref).length < sizeLine := by
        have := Paired.length hts
        rw [List.length_map, List.length_take, len_nAge] at this
        rw [List.length_map, sizeLine_eq]
        omega
      refine ⟨_, rfl, .inl ⟨rfl, _, SqL.of hD⟩, _, rfl, u.1, _, dn, _, _, rfl, hun, Z.cl_Note, Z.n_Note_name, rfl, _, rfl, pl, dl4, _, rfl, hwl, rfl, ?_⟩
      refine ⟨_, rfl, u.1, _, dn, _, _, rfl, hun, Z.cl_Note, Z.n_Note_grains, rfl, _, rfl, pw, _, dw, _, _, rfl, hww, Z.cl_Weight, Z.n_Weight_bottom, rfl, _, _, rfl, rfl, wide_mul zg (show (v.den : Int).natAbs < 2 ^ 300 from zv.2) (by decide) (by decide) (by decide), ?_⟩
      refine ⟨_, rfl, pw, _, dw, _, _, rfl, hww, Z.cl_Weight, Z.n_Weight_top, rfl, ?_⟩
      refine ⟨pl, loss, _, _, 2000, 320, 300, rfl, wl4.kp k5, l0, Int.mul_nonneg (by omega) (by omega), by omega, zl, zt', zv.1, by decide, by decide, by decide, by decide, fun p' H7 e7 np7 wp7 => ?_⟩
      rw [share_val loss v u.2.grains v0] at wp7
      refine ⟨(by show 2 ≤ sizeLine; rw [sizeLine_eq]; omega), fun T nT => ?_⟩
      have hD7 := e7 _ _ hD
      have nTD : D ≠ T := ne_of_none hD7 nT
      have hD8 : upd H7 T (.tup [.str u.2.name, .ref p']) D = some (.lst (ts.map V.ref)) := (upd_ne nTD).trans hD7
      have k8 : Kp H7 (upd (upd H7 T (.tup [.str u.2.name, .ref p'])) D (.lst (ts.map V.ref ++ [.ref T]))) := (Kp.new nT).trans (Kp.put hD8)
      refine ⟨D, _, _, rfl, rfl, hD8, hlen, ⟨_, _, rfl⟩, Ext.put ((e5.trans e7).trans (Ext.upd nT)) nDH, (k5.trans (Kp.of e7)).trans k8, ts ++ [T], ?_, ?_⟩
      · rw [upd_same, List.map_append]
        rfl
      · rw [take_snoc hu, List.map_append]
        refine paired_snoc ⟨p', ?_, wp7.kp k8⟩ (paired_mono (fun _ _ y => (y.kp (Kp.of e7)).kp k8) hts)
        rw [upd_ne (Ne.symm nTD), upd_same]
        rfl
    · obtain ⟨⟨n, r, rfl⟩, e5, k5, ts, hD, hts⟩ := p
      rw [List.length_map, List.take_length] at hts
      have hww := k5 _ _ ww4' (fun _ z => by cases z) (fun _ z => by cases z)
      have hwl := k5 _ _ wl4' (fun _ z => by cases z) (fun _ z => by cases z)
      have zr := zv.sub zm
      refine ⟨_, rfl, pw, dw, _, rfl, hww, rfl, _, rfl, pw, pm, v, many l, 300, 24, rfl, ww4.kp k5, wm4.kp k5, m0, mv, zv, zm, by decide, by decide, by decide, fun pr H6 e6 npr wr => ?_⟩
      obtain ⟨dr, wr'⟩ := id wr
      have hD6 := e6 _ _ hD
      have tl : shares loss stock l = (nAge l).map (shEnt loss v) ++ shareTail loss v (many l) := by
        unfold shares
        rw [if_neg e0, hv]
      refine ⟨_, rfl, pr, dr, _, rfl, wr', rfl, pr, v - many l, rfl, wr, _, rfl, ?_⟩
      by_cases r0 : v - many l = 0
      · rw [decide_eq_true r0]
        refine iteF (nxt ⟨_, rfl, D, _, rfl, SqL.of hD6, fun T nT => q T _ ts ((e5.trans e6).trans (Ext.upd nT)) upd_same ?_⟩)
        rw [tl, show shareTail loss v (many l) = [] from if_pos r0, List.append_nil]
        exact paired_mono (fun _ _ y => (y.kp (Kp.of e6)).kp (Kp.new nT)) hts
      · rw [decide_eq_false r0]
        refine iteT ?_
        have rn : 0 ≤ v - many l := by grind
        have rp : 0 < v - many l := by grind
        have hww6 := e6 _ _ hww
        have hwl6 := e6 _ _ hwl
        have z3 := zr.2.2
        have nn := num_pos rp
        have dd := (v - many l).den_pos
        have zt1 : ((v - many l).num * (v.den : Int)).natAbs < 2 ^ (325 + 300) := wide_lt z3.1 (show (v.den : Int).natAbs < 2 ^ 300 from zv.2)
        have zt2 : (((v - many l).den : Int) * v.num).natAbs < 2 ^ (325 + 300) := wide_lt (show ((v - many l).den : Int).natAbs < 2 ^ 325 from z3.2) zv.1
        have b1 : 0 < ((v - many l).den : Int) * v.num := Int.mul_pos (by omega) vn
        have hlen : (ts.map V.ref).length < sizeLine := by
          have := Paired.length hts
          rw [List.length_map, len_nAge] at this
          rw [List.length_map, sizeLine_eq]
          omega
        refine ⟨_, rfl, .inl ⟨rfl, _, SqL.of hD6⟩, _, rfl, pl, dl4, _, rfl, hwl6, rfl, ?_⟩
        refine ⟨_, rfl, pr, _, dr, _, _, rfl, wr', Z.cl_Weight, Z.n_Weight_top, rfl, _, rfl, pw, _, dw, _, _, rfl, hww6, Z.cl_Weight, Z.n_Weight_bottom, rfl, _, _, rfl, rfl, wide_mul z3.1 (show (v.den : Int).natAbs < 2 ^ 300 from zv.2) (by decide) (by decide) (by decide), ?_⟩
        refine ⟨_, rfl, pr, _, dr, _, _, rfl, wr', Z.cl_Weight, Z.n_Weight_bottom, rfl, _, rfl, pw, _, dw, _, _, rfl, hww6, Z.cl_Weight, Z.n_Weight_top, rfl, _, _, rfl, rfl, wide_mul (show ((v - many l).den : Int).natAbs < 2 ^ 325 from z3.2) zv.1 (by decide) (by decide) (by decide), ?_⟩
        refine ⟨pl, loss, _, _, 2000, 625, 625, rfl, (wl4.kp k5).kp (Kp.of e6), l0, Int.mul_nonneg (by omega) (by omega), by omega, zl, zt1, zt2, by decide, by decide, by decide, by decide, fun p' H7 e7 np7 wp7 => ?_⟩
        rw [share_rest loss (v - many l) v v0] at wp7
        refine ⟨(by show 2 ≤ sizeLine; rw [sizeLine_eq]; omega), fun T nT => ?_⟩
        have hD7 := e7 _ _ hD6
        have nTD : D ≠ T := ne_of_none hD7 nT
        have hD8 : upd H7 T (.tup [.non, .ref p']) D = some (.lst (ts.map V.ref)) := (upd_ne nTD).trans hD7
        have k8 : Kp H7 (upd (upd H7 T (.tup [.non, .ref p'])) D (.lst (ts.map V.ref ++ [.ref T]))) := (Kp.new nT).trans (Kp.put hD8)
        refine ⟨D, _, _, rfl, rfl, hD8, hlen, ?_⟩
        have eE : Ext H (upd (upd H7 T (.tup [.non, .ref p'])) D (.lst (ts.map V.ref ++ [.ref T]))) := Ext.put (((e5.trans e6).trans e7).trans (Ext.upd nT)) nDH
        have hs9 : upd (upd H7 T (.tup [.non, .ref p'])) D (.lst (ts.map V.ref ++ [.ref T])) D = some (.lst ((ts ++ [T]).map V.ref)) := by
          rw [upd_same, List.map_append]
          rfl
        refine ⟨_, rfl, D, _, rfl, SqL.of hs9, fun U nU => q U _ (ts ++ [T]) (eE.trans (Ext.upd nU)) upd_same ?_⟩
        rw [tl, show shareTail loss v (many l) = [(none, loss * (v - many l) / v)] from if_neg r0]
        refine paired_mono (fun _ _ y => y.kp (Kp.new nU)) (paired_snoc ⟨p', ?_, wp7.kp k8⟩ (paired_mono (fun _ _ y => (y.kp (Kp.of (e6.trans e7))).kp k8) hts))
        rw [upd_ne (Ne.symm nTD), upd_same]
        rfl
end
end K34
set_option Elab.async false
set_option linter.all false
set_option maxRecDepth 100000
set_option maxHeartbeats 4000000
/-! K34L: told, behind, added. -/
namespace K34
open PySem PySem.Spec PyProof.Rows L2
theorem tk_names (g : Rat) (xs : List (Str × Rat)) : ((tk g xs).1.map (·.1)).Sublist (xs.map (·.1)) := by
  have key : ∀ (xs : List (Str × Rat)) (s : List (Str × Rat) × Rat), ∃ l, (xs.foldl tkStep s).1 = s.1 ++ l ∧ (l.map (·.1)).Sublist (xs.map (·.1)) := by
    intro xs
    induction xs with
    | nil => intro s; exact ⟨[], by simp, List.Sublist.slnil⟩
    | cons x xs ih =>
      intro s
      obtain ⟨l, e, h⟩ := ih (tkStep s x)
      rw [List.foldl_cons, e]
      unfold tkStep
      dsimp only
      split
      · exact ⟨l, rfl, h.cons _⟩
      · refine ⟨(x.1, tkT s.2 x.2) :: l, by simp, ?_⟩
        rw [List.map_cons, List.map_cons]
        exact h.cons₂ _
  obtain ⟨l, e, h⟩ := key xs ([], g)
  unfold tk
  rw [e, List.nil_append]
  exact h
theorem holds_nodup {z : Str} {l : List (Addr × CK)} (nd : (l.map fun x => x.2.fig).Nodup) : ((holds z (byAge l)).map (·.1)).Nodup := by
  have h1 : ((byAge l).map fun x => x.2.fig).Nodup := ((List.mergeSort_perm l _).map _).nodup_iff.mpr nd
  unfold holds
  rw [List.map_map]
  have h2 := List.pairwise_map.mp h1
  exact List.pairwise_map.mpr (h2.imp fun {x y} n e => n (mk_inj e))
/-- entries of a dict: marks and Weights -/
def EntD (K : PySem.W.Frag) (H : Hp) (kvs : List (Option Str × V)) (es : List (Option Str × Rat)) : Prop := Paired (fun (kv : Option Str × V) (e : Option Str × Rat) => kv.1 = e.1 ∧ ∃ w, kv.2 = .ref w ∧ WAt K H w e.2) kvs es
theorem EntD.kp {K : PySem.W.Frag} {H H' : Hp} {kvs : List (Option Str × V)} {es : List (Option Str × Rat)} (h : EntD K H kvs es) (e : Kp H H') : EntD K H' kvs es := paired_mono (fun _ _ ⟨a, w, b, c⟩ => ⟨a, w, b, c.kp e⟩) h
theorem EntD.keys {K : PySem.W.Frag} {H : Hp} : ∀ {kvs : List (Option Str × V)} {es : List (Option Str × Rat)}, EntD K H kvs es → kvs.map (·.1) = es.map (·.1)
  | _, _, .nil => rfl
  | _, _, .cons h t => by rw [List.map_cons, List.map_cons, h.1, EntD.keys t]
/-- a mark's entry -/
def omk (e : Str × Rat) : Option Str × Rat := (some e.1, e.2)
/-- dict(a tuple of pairs), told by an own world -/
def rDictT (P : Program) (w : World) (K : PySem.W.Frag) : List V → Hp → VK → Prop := fun xs H Q => ∃ (a : Addr) (ts : List Addr) (es : List (Option Str × Rat)), xs = [.ref a] ∧ H a = some (tE a (ts.map V.ref)) ∧ Paired (ShAt K H) ts es ∧ (es.map (·.1)).Nodup ∧
  ∀ p H' kvs, Ext H H' → H p = none → H' p = some (dO P w p kvs) → EntD K H' kvs es → Q (.ref p) H'
theorem sh_ents {K : PySem.W.Frag} {H : Hp} : ∀ {ts : List Addr} {es : List (Option Str × Rat)}, Paired (ShAt K H) ts es → ∃ kvs, Paired (fun t (kv : Option Str × V) => SqT K H t [oV kv.1, kv.2]) ts kvs ∧ EntD K H kvs es
  | _, _, .nil => ⟨[], .nil, .nil⟩
  | _, _, .cons (b := e) ⟨w, h1, h2⟩ t => by
    obtain ⟨kvs, a, b⟩ := sh_ents t
    exact ⟨(e.1, .ref w) :: kvs, .cons (SqT.of h1) a, .cons ⟨rfl, w, rfl, h2⟩ b⟩
theorem cr_dictK {X : Cx} {P : Program} {w : World} {K : PySem.W.Frag} (h1 : X.prog = P) (h2 : X.w = w) (h3 : X.K = K) (hc : X.calm = true) : CallR X (.type "dict") (rDictT P w K) := by
  subst h1 h2 h3
  intro pins s σ H xs us Q I r ⟨a, ts, es, ex, ha, hp, nd, q⟩
  obtain ⟨kvs, p1, p2⟩ := sh_ents hp
  exact cr_dictT hc pins s σ H xs us Q I r ⟨a, ts, kvs, ex, ha, p1, by rw [p2.keys]; exact nd, fun p np => q p _ kvs (Ext.upd np) np upd_same (p2.kp (Kp.new np))⟩
section
variable {P : Program} {w : World} {K : PySem.W.Frag} {mg : Str → Option Value} {base : Heap}
theorem part_sh {H : Hp} : ∀ {ts : List Addr} {es : List (Str × Rat)}, Paired (PartAt K H) ts es → Paired (ShAt K H) ts (es.map omk)
  | _, _, .nil => .nil
  | _, _, .cons h t => .cons h (part_sh t)
/-- what casks are asked -/
structure CasksOk (l : List (Addr × CK)) : Prop where
  ok : ∀ x ∈ l, CkOk x.2
  few : l.length ≤ 12
  nd : (l.map fun x => x.2.fig).Nodup
def spTd (P : Program) (w : World) (K : PySem.W.Frag) : Sp := fun vs H Q _ => ∃ (a : Addr) (l : List (Addr × CK)) (z : Str) (g : Int), vs = [.ref a, .str z, .int g] ∧ SqT K H a (l.map fun x : Addr × CK => V.ref x.1) ∧ CasksAt K H l ∧ CasksOk l ∧ LamX.Tabs (TT K) H ∧ 0 ≤ g ∧ g < 2 ^ 20 ∧
  ((tk g (holds z (byAge l))).2 = 0 → ∀ T d kvs H', EN K H H' → H' T = some (.tup [.ref d, .non]) → H' d = some (dO P w d kvs) → EntD K H' kvs ((tk g (holds z (byAge l))).1.map omk) → Q (.ref T) H') ∧
  ((tk g (holds z (byAge l))).2 ≠ 0 → ∀ T pw H', EN K H H' → H' T = some (.tup [.non, .ref pw]) → WAt K H' pw (tk g (holds z (byAge l))).2 → Q (.ref T) H')
theorem scTd : FnScope ["_law_casks_here", "_law_ware", "_law_grains", "_law_told_here", "e"] ["_law_casks_here", "_law_ware", "_law_grains"] (defScope (top 62)) := ⟨rfl, rfl, rfl, by decide +kernel, rfl, by decide +kernel, by decide +kernel⟩
theorem ok_td (Z : Wd K mg) (TB : Tb K mg base) : C8.Cal P w K mg base 8 "_law_told" (spTd P w K) [] := by
  refine cal (st := top 62) Z.d__law_told Z.g__law_told scTd (fun vs H Q E h => ?_) (fun _ _ _ _ _ _ us hl => match us, hl with | [_, _, _], _ => rfl) fun cdv A outer s H vs Q E hr h => ?_
  · obtain ⟨a, l, z, g, rfl, _⟩ := h
    rfl
  · obtain ⟨a, l, z, g, rfl, hs, hc, ok, hT, g0, g1, q1, q2⟩ := h
    obtain ⟨fdT, FT, bT, kT⟩ := (tkc (P := P) (w := w) (base := base) Z TB).ex
    have hr7 : Room 7 _ := hr
    refine ⟨_, PSs.nox (pss_cons (ps_set (i := 3) scTd.nd rfl (.inl rfl) (pe_tup (pa_cons pe_non (pa_cons pe_non pa_nil))))
      (pss_cons (ps_try_as (i := 4) (tb := fun W => tAsg (tTup (tCons (tCB (rDictT P w K) (tCons (tCallS (spTk K) (WE W) (tCons (tVar 0) (tCons (tVar 1) (tCons (tVar 2) tNil)))) tNil)) (tCons (tC .non) tNil))) (gName 3))
          (ts := fun a cls d => tAsg (tTup (tCons (tC .non) (tCons (tXf a cls d (CS K) "lacks" (tVar 4)) tNil))) (gName 3)) (Wout := fun _ _ _ _ => False) rfl rfl scTd.nd rfl rfl ⟨rfl, by decide, Or.inl Z.g_Short⟩ LamX.takes0
          (fun W pn xe tk _ => pss_one (ps_set (i := 3) scTd.nd rfl (Or.inl rfl) (by exact (pe_tup (pa_cons (pe_callTy (cr_dictK rfl rfl rfl rfl) (by rfl) Z.f_dict (by decide +kernel) (by exact (pa_cons (pe_callS FT hr7 (by rfl) Z.g_taking kT bT (fun σ => passAt tk σ) (by exact (pa_cons (pv 0) (pa_cons (pv 1) (pa_cons (pv 2) pa_nil))))) pa_nil))) (pa_cons pe_non pa_nil))))))
          (fun a oe cls d pn hz hf => pss_one (ps_set (i := 3) scTd.nd rfl (Or.inl rfl) (by exact (pe_tup (pa_cons pe_non (pa_cons (pe_xf Z.sh.x Z.sh.l hz hf (pv 4)) pa_nil)))))))
      (pss_one (ps_ret (pv 3))))), ?_⟩
    refine ⟨(by show 2 ≤ sizeLine; rw [sizeLine_eq]; omega), fun T0 nT0 => ?_⟩
    have e0 : Ext H (upd H T0 (.tup [.non, .non])) := Ext.upd nT0
    refine ⟨_, rfl, _, rfl, _, rfl, a, l, z, g, rfl, hs.ext e0, hc.kp (Kp.of e0), ok.ok, ok.few, hT.ext e0, g0, g1, fun z0 p H1 ts en hp hts => ?_, fun z1 d pw H1 en hd wpw => ?_⟩
    · refine ⟨p, ts, (tk g (holds z (byAge l))).1.map omk, rfl, hp, part_sh hts, ?_, fun dd H2 kvs e2 nd hdd ent => ⟨(by show 2 ≤ sizeLine; rw [sizeLine_eq]; omega), fun T nT => ?_⟩⟩
      · rw [List.map_map]
        have h1 := (holds_nodup (z := z) ok.nd).sublist (tk_names g _)
        exact List.pairwise_map.mpr ((List.pairwise_map.mp h1).imp fun {x y} n e => n (Option.some.inj e))
      · exact ⟨_, rfl, q1 z0 T dd kvs _ ((((EN.of e0).trans en).trans (EN.of e2)).trans (EN.of (Ext.upd nT))) upd_same ((upd_ne (ne_of_none hdd nT)).trans hdd) (ent.kp (Kp.new nT))⟩
    · refine ⟨true, Z.sh.e, fun _ x nx => ?_, fun h => by cases h⟩
      refine ⟨_, rfl, rfl, rfl, d, _, .ref pw, rfl, hd, rfl, (by show 2 ≤ sizeLine; rw [sizeLine_eq]; omega), fun T nT => ?_⟩
      exact ⟨_, rfl, q2 z1 T pw _ (((EN.of e0).trans en).trans (EN.of (Ext.upd nT))) upd_same (wpw.kp (Kp.new nT))⟩
/-! ### _law_behind -/
/-- what is left in a cask: taken tells how much, by marks -/
def lessK (z : Str) (es : List (Str × Rat)) (k : CK) : CK := match es.lookup (mk k.fig) with
  | some r => ⟨k.fig, k.since, lessP k.parts z (wof k.parts z - r)⟩
  | none => k
def spBh (P : Program) (w : World) (K : PySem.W.Frag) : Sp := fun vs H Q _ => ∃ (a d : Addr) (l : List (Addr × CK)) (z : Str) (kvs : List (Option Str × V)) (es : List (Str × Rat)), vs = [.ref a, .str z, .ref d] ∧ SqT K H a (l.map fun x : Addr × CK => V.ref x.1) ∧ CasksAt K H l ∧ CasksOk l ∧
  H d = some (dO P w d kvs) ∧ EntD K H kvs (es.map omk) ∧ (∀ x ∈ l, ∀ r, es.lookup (mk x.2.fig) = some r → 0 < r ∧ r ≤ wof x.2.parts z ∧ Sz 300 r ∧ Sz 300 (wof x.2.parts z - r)) ∧
  ∀ p H' (cs : List Addr), Ext H H' → H' p = some (.tup (cs.map V.ref)) → Paired (CaskAt K H') cs (l.map fun x => lessK z es x.2) → Q (.ref p) H'
theorem scBh : FnScope ["_law_casks_here", "_law_ware", "_law_taken", "_law_cask"] ["_law_casks_here", "_law_ware", "_law_taken"] (defScope (top 63)) := ⟨rfl, rfl, rfl, by decide +kernel, rfl, by decide +kernel, by decide +kernel⟩
theorem ent_val {H : Hp} {m : Str} : ∀ {kvs : List (Option Str × V)} {es : List (Str × Rat)}, EntD K H kvs (es.map omk) → (es.lookup m = none ∧ valV kvs (some m) = none) ∨ ∃ r w, es.lookup m = some r ∧ valV kvs (some m) = some (.ref w) ∧ WAt K H w r
  | [], [], _ => .inl ⟨rfl, rfl⟩
  | kv :: kvs, e :: es, .cons ⟨h1, w, h2, h3⟩ t => by
    obtain ⟨k, v⟩ := kv
    obtain ⟨n, r⟩ := e
    have h1' : k = some n := h1
    have h2' : v = .ref w := h2
    subst h1' h2'
    by_cases e : n = m
    · subst e
      refine .inr ⟨r, w, ?_, ?_, h3⟩
      · rw [List.lookup_cons_self]
      · unfold valV
        simp
    · rcases ent_val (m := m) t with ⟨a, b⟩ | ⟨r', w', a, b, c⟩
      · refine .inl ⟨?_, ?_⟩
        · rw [List.lookup_cons, beq_eq_false_iff_ne.mpr (Ne.symm e)]
          exact a
        · unfold valV at b ⊢
          simp [e]
          simpa using b
      · refine .inr ⟨r', w', ?_, ?_, c⟩
        · rw [List.lookup_cons, beq_eq_false_iff_ne.mpr (Ne.symm e)]
          exact a
        · unfold valV at b ⊢
          simp [e]
          simpa using b
end
/-! ### dict rules with an own world -/
def oGW (P : Program) (w : World) (H : Hp) (a : Addr) (y : V) (r : Option V) : Prop := ∃ kvs k, Rd H a (dO P w a kvs) ∧ y = oV k ∧ valV kvs k = r
def tOgetW (P : Program) (w : World) (td ty : TE) : TE := fun σ H Q => td σ H fun x H1 => ty σ H1 fun y H2 => ∃ a v, x = .ref a ∧ oGW P w H2 a y (some v) ∧ Q v H2
def tOinW (P : Program) (w : World) (ty td : TE) : TE := fun σ H Q => ty σ H fun y H1 => td σ H1 fun x H2 => ∃ a o, x = .ref a ∧ oGW P w H2 a y o ∧ Q (.bl o.isSome) H2
theorem pe_ogetW {X : Cx} {P : Program} {w : World} {o i : Expr} {td ty : TE} {pos : Pos} (h1 : X.prog = P) (h2 : X.w = w) (ho : PE X o td) (hi : PE X i ty) (hs : NoSl i) : PE X (.Subscript o i pos) (tOgetW P w td ty) := by
  subst h1 h2
  exact pe_oget ho hi hs
theorem pc_oinW {X : Cx} {P : Program} {w : World} {o i : Expr} {td ty : TE} (h1 : X.prog = P) (h2 : X.w = w) (hi : PE X i ty) (ho : PE X o td) : PC X .In i o (tOinW P w ty td) := by
  subst h1 h2
  exact pc_oin hi ho
section
variable {P : Program} {w : World} {K : PySem.W.Frag} {mg : Str → Option Value} {base : Heap}
theorem ok_bh (Z : Wd K mg) : C8.Cal P w K mg base 8 "_law_behind" (spBh P w K) [] := by
  refine cal (st := top 63) Z.d__law_behind Z.g__law_behind scBh (fun vs H Q E h => ?_) (fun _ _ _ _ _ _ us hl => match us, hl with | [_, _, _], _ => rfl) fun cdv A outer s H vs Q E hr h => ?_
  · obtain ⟨a, d, l, z, kvs, es, rfl, _⟩ := h
    rfl
  · obtain ⟨a, d, l, z, kvs, es, rfl, hs, hc, ok, hd, ent, tk, q⟩ := h
    have mL := met_le (P := P) (w := w) (base := base) Z
    refine ⟨_, PSs.nox (pss_one (ps_ret (pe_callTy call_tuple_of (by rfl) Z.f_tuple (by decide +kernel) (pa_cons (pe_lc (own := [("_law_cask", 3)]) (g := gName 3) (tt := tYes) rfl scBh.nd (pi_tup (pv 0)) (blkOk_by (own := [("_law_cask", 3)]) (N := ["_law_casks_here", "_law_ware", "_law_taken", "_law_cask"]) (sc := defScope (top 63)) (by decide +kernel))
      (fun _ _ _ _ _ => pg_name (i := 3) scBh.nd rfl (Or.inl rfl)) (fun _ _ _ _ _ => pts_nil)
      (fun _ _ _ _ _ => pe_ifExp (pt_cmp (pc_oinW (P := P) (w := w) rfl rfl (pe_fldK (K := K) rfl (pv 3) (by rfl)) (pv 2))) (C8.pe_mt mL hr (by decide) (pv 3) (pa_cons (pv 1) (pa_cons (pe_ogetW (P := P) (w := w) rfl rfl (pv 2) (pe_fldK (K := K) rfl (pv 3) (by rfl)) (fun _ _ => rfl)) pa_nil))) (pv 3))) pa_nil)))), ?_⟩
    refine ⟨_, rfl, a, rfl, ⟨_, hs⟩, fun D nD => lc_it (walk_tup (xs := l.map fun x : Addr × CK => V.ref x.1)) (fun i H1 => Ext H H1 ∧ ∃ cs : List Addr, H1 D = some (.lst (cs.map V.ref)) ∧ Paired (CaskAt K H1) cs ((l.take i).map fun x => lessK z es x.2)) ⟨Ext.upd nD, [], upd_same, .nil⟩ (fun i H1 _ p => hs.ext p.1) (fun i x H1 H2 hi p y => ?_) fun H1 p => ?_⟩
    · obtain ⟨e, cs, hD, hcs⟩ := p
      obtain ⟨rfl, hx⟩ := y
      rw [List.getElem?_map] at hx
      obtain ⟨c, hcu, rfl⟩ := Option.map_eq_some_iff.mp hx
      have cm := List.mem_of_getElem? hcu
      have ca := (hc c cm).kp (Kp.of e)
      have co := ok.ok c cm
      obtain ⟨dc, tc, hcc, _⟩ := id ca
      have few := ok.few
      have lc := Paired.length hcs
      rw [List.length_map, List.length_take] at lc
      have hlen : (cs.map V.ref).length < sizeLine := by
        rw [List.length_map, sizeLine_eq]
        omega
      refine ⟨rfl, ?_⟩
      rcases ent_val (m := mk c.2.fig) ent with ⟨l1, l2⟩ | ⟨r, wp, l1, l2, wr⟩
      · refine ⟨_, rfl, c.1, _, dc, _, _, rfl, hcc, Z.cl_Cask, Z.n_Cask_mark, rfl, _, rfl, d, none, rfl, ⟨kvs, some (mk c.2.fig), .inl (e _ _ hd), rfl, l2⟩, _, rfl, iteF ?_⟩
        refine ⟨_, rfl, _, hD, hlen, Ext.put e nD, cs ++ [c.1], ?_, ?_⟩
        · rw [upd_same, List.map_append]
          rfl
        · rw [take_snoc hcu, List.map_append]
          refine paired_snoc ?_ (paired_mono (fun _ _ y => y.kp (Kp.put hD)) hcs)
          show CaskAt K _ c.1 (lessK z es c.2)
          unfold lessK
          rw [l1]
          exact ca.kp (Kp.put hD)
      · obtain ⟨r0, rq, rs, ds⟩ := tk c cm r l1
        have inP : (z, wof c.2.parts z) ∈ c.2.parts := by
          rcases wof_cases co.parts z with y | ⟨y, _⟩
          · rw [y] at rq
            exfalso
            grind
          · exact y
        refine ⟨_, rfl, c.1, _, dc, _, _, rfl, hcc, Z.cl_Cask, Z.n_Cask_mark, rfl, _, rfl, d, _, rfl, ⟨kvs, some (mk c.2.fig), .inl (e _ _ hd), rfl, l2⟩, _, rfl, iteT ?_⟩
        refine ⟨_, rfl, c.1, dc, _, rfl, hcc, rfl, _, rfl, _, rfl, _, rfl, c.1, _, dc, _, _, rfl, hcc, Z.cl_Cask, Z.n_Cask_mark, rfl, d, _, rfl, ⟨kvs, some (mk c.2.fig), .inl (e _ _ hd), rfl, l2⟩, ?_⟩
        refine ⟨c.1, wp, c.2, z, wof c.2.parts z, r, 300, rfl, ca, co, inP, wr.ext e, Rat.le_of_lt r0, rq, rs, by decide, by decide, ds, fun p H3 e3 np cp => ?_⟩
        have hD3 := e3 _ _ hD
        refine ⟨_, hD3, hlen, Ext.put (e.trans e3) nD, cs ++ [p], ?_, ?_⟩
        · rw [upd_same, List.map_append]
          rfl
        · rw [take_snoc hcu, List.map_append]
          refine paired_snoc ?_ (paired_mono (fun _ _ y => (y.kp (Kp.of e3)).kp (Kp.put hD3)) hcs)
          show CaskAt K _ p (lessK z es c.2)
          unfold lessK
          rw [l1]
          exact cp.kp (Kp.put hD3)
    · obtain ⟨e, cs, hD, hcs⟩ := p
      rw [List.length_map, List.take_length] at hcs
      exact ⟨D, _, rfl, .inl ⟨SqL.of hD, fun T nT => q T _ cs (e.trans (Ext.upd nT)) upd_same (paired_mono (fun _ _ y => y.kp (Kp.new nT)) hcs)⟩⟩
end
end K34
set_option Elab.async false
set_option linter.all false
set_option maxRecDepth 100000
set_option maxHeartbeats 4000000
/-! K34L2: dicts as maps; added. -/
namespace K34
open PySem PySem.Spec PyProof.Rows L2
/-- a dict whose values are Weights, as a map -/
def MapD (K : PySem.W.Frag) (H : Hp) (kvs : List (Option Str × V)) (m : Option Str → Option Rat) : Prop := (kvs.map (·.1)).Nodup ∧ ∀ k, (m k = none ∧ valV kvs k = none) ∨ ∃ r w, m k = some r ∧ valV kvs k = some (.ref w) ∧ WAt K H w r
theorem MapD.kp {K : PySem.W.Frag} {H H' : Hp} {kvs : List (Option Str × V)} {m : Option Str → Option Rat} (h : MapD K H kvs m) (e : Kp H H') : MapD K H' kvs m := ⟨h.1, fun k => by
  rcases h.2 k with z | ⟨r, w, a, b, c⟩
  · exact .inl z
  · exact .inr ⟨r, w, a, b, c.kp e⟩⟩
theorem MapD.tr {K : PySem.W.Frag} {H H' : Hp} {kvs : List (Option Str × V)} {m : Option Str → Option Rat} (h : MapD K H kvs m) (e : ∀ w r, WAt K H w r → WAt K H' w r) : MapD K H' kvs m := ⟨h.1, fun k => by
  rcases h.2 k with z | ⟨r, w, a, b, c⟩
  · exact .inl z
  · exact .inr ⟨r, w, a, b, e w r c⟩⟩
theorem WAt.ne {K : PySem.W.Frag} {H : Hp} {p d : Addr} {q : Rat} {o : HO} (h : WAt K H p q) (hd : H d = some o) (n : ∀ C dx fs, o ≠ .ins C dx fs) : p ≠ d := fun z => by
  obtain ⟨dx, h⟩ := h
  rw [z, hd] at h
  exact n _ _ _ (Option.some.inj h)
theorem WAt.upd {K : PySem.W.Frag} {H : Hp} {p d : Addr} {q : Rat} {o : HO} (h : WAt K H p q) (n : p ≠ d) : WAt K (L2.upd H d o) p q := let ⟨dx, h⟩ := h; ⟨dx, (upd_ne n).trans h⟩
theorem MapD.congr {K : PySem.W.Frag} {H : Hp} {kvs : List (Option Str × V)} {m m' : Option Str → Option Rat} (h : MapD K H kvs m) (e : ∀ k, m' k = m k) : MapD K H kvs m' := ⟨h.1, fun k => by
  rw [e k]
  exact h.2 k⟩
theorem valV_none {kvs : List (Option Str × V)} {k : Option Str} : valV kvs k = none ↔ k ∉ kvs.map (·.1) := by
  unfold valV
  rw [Option.map_eq_none_iff, List.find?_eq_none]
  constructor
  · intro h z
    obtain ⟨p, hp, e⟩ := List.mem_map.mp z
    exact h p hp (decide_eq_true e)
  · intro h p hp e
    exact h (List.mem_map.mpr ⟨p, hp, of_decide_eq_true e⟩)
/-- of entries -/
theorem MapD.of {K : PySem.W.Frag} {H : Hp} {kvs : List (Option Str × V)} {es : List (Option Str × Rat)} (h : EntD K H kvs es) (nd : (es.map (·.1)).Nodup) : MapD K H kvs fun k => es.lookup k := by
  refine ⟨by rw [h.keys]; exact nd, fun k => ?_⟩
  induction h with
  | nil => exact .inl ⟨rfl, rfl⟩
  | @cons kv e kvs es h t ih =>
    obtain ⟨h1, w, h2, h3⟩ := h
    by_cases ek : e.1 = k
    · refine .inr ⟨e.2, w, ?_, ?_, h3⟩
      · obtain ⟨a, b⟩ := e
        subst ek
        exact List.lookup_cons_self
      · rw [valV_pos (h1.trans ek), h2]
    · have nd' : (es.map (·.1)).Nodup := by
        rw [List.map_cons] at nd
        exact (List.nodup_cons.mp nd).2
      have z1 : (e :: es).lookup k = es.lookup k := by
        obtain ⟨a, b⟩ := e
        rw [List.lookup_cons, beq_eq_false_iff_ne.mpr (Ne.symm ek)]
      have z2 : valV (kv :: kvs) k = valV kvs k := valV_neg fun y => ek (h1.symm.trans y)
      show ((e :: es).lookup k = none ∧ valV (kv :: kvs) k = none) ∨ ∃ r w, (e :: es).lookup k = some r ∧ _
      rw [z1, z2]
      exact ih nd'
theorem nd_put {kvs : List (Option Str × V)} (k : Option Str) (v : V) (h : (kvs.map (·.1)).Nodup) : ((putK kvs k v).map (·.1)).Nodup := by
  unfold putK
  split
  · have e : (kvs.map fun kv => if kv.1 = k then (kv.1, v) else kv).map (·.1) = kvs.map (·.1) := by
      rw [List.map_map]
      refine List.map_congr_left fun p _ => ?_
      show (if p.1 = k then (p.1, v) else p).1 = p.1
      split <;> rfl
    rw [e]
    exact h
  · rename_i z
    rw [List.map_append]
    refine List.nodup_append.mpr ⟨h, List.pairwise_singleton _ _, fun a ha b hb e => ?_⟩
    have hb' : b = k := by simpa using hb
    obtain ⟨p, hp, e2⟩ := List.mem_map.mp ha
    exact z (List.any_eq_true.mpr ⟨p, hp, decide_eq_true (e2.trans (e.trans hb'))⟩)
/-- stored -/
theorem MapD.put {K : PySem.W.Frag} {H H' : Hp} {kvs : List (Option Str × V)} {m : Option Str → Option Rat} {k : Option Str} {p : Addr} {r : Rat} (h : MapD K H kvs m) (e : Kp H H') (wp : WAt K H' p r) : MapD K H' (putK kvs k (.ref p)) fun j => if j = k then some r else m j := by
  refine ⟨nd_put k _ h.1, fun j => ?_⟩
  dsimp only
  rw [valV_put]
  by_cases ej : j = k
  · rw [if_pos ej, if_pos ej]
    exact .inr ⟨r, p, rfl, rfl, wp⟩
  · rw [if_neg ej, if_neg ej]
    exact (h.kp e).2 j
/-- maps of one domain have dicts of one length -/
theorem MapD.len {K : PySem.W.Frag} {H H' : Hp} {kvs kvs' : List (Option Str × V)} {m : Option Str → Option Rat} (h : MapD K H kvs m) (h' : MapD K H' kvs' m) : kvs.length = kvs'.length := by
  have e : ∀ k, k ∈ kvs.map (·.1) ↔ k ∈ kvs'.map (·.1) := fun k => by
    have a := @valV_none kvs k
    have b := @valV_none kvs' k
    rcases h.2 k with ⟨z1, z2⟩ | ⟨r, w, z1, z2, _⟩ <;> rcases h'.2 k with ⟨y1, y2⟩ | ⟨r', w', y1, y2, _⟩
    · exact ⟨fun x => absurd x (a.mp z2), fun x => absurd x (b.mp y2)⟩
    · rw [z1] at y1
      cases y1
    · rw [z1] at y1
      cases y1
    · refine ⟨fun _ => ?_, fun _ => ?_⟩
      · by_cases c : k ∈ kvs'.map (·.1)
        · exact c
        · rw [b.mpr c] at y2
          cases y2
      · by_cases c : k ∈ kvs.map (·.1)
        · exact c
        · rw [a.mpr c] at z2
          cases z2
  have := ((List.perm_ext_iff_of_nodup h.1 h'.1).mpr e).length_eq
  rw [List.length_map, List.length_map] at this
  exact this
/-- key by key -/
def addM (m1 m2 : Option Str → Option Rat) (k : Option Str) : Option Rat := match m2 k with
  | none => m1 k
  | some r => some ((m1 k).getD 0 + r)
section
variable {P : Program} {w : World} {K : PySem.W.Frag} {mg : Str → Option Value} {base : Heap}
def spAdd (P : Program) (w : World) (K : PySem.W.Frag) : Sp := fun vs H Q _ => ∃ (d1 d2 : Addr) (k1 k2 : List (Option Str × V)) (m1 m2 : Option Str → Option Rat) (n1 n2 : Nat), vs = [.ref d1, .ref d2] ∧ H d1 = some (dO P w d1 k1) ∧ H d2 = some (dO P w d2 k2) ∧ MapD K H k1 m1 ∧ MapD K H k2 m2 ∧
  (∀ k r, m1 k = some r → 0 ≤ r ∧ Sz n1 r) ∧ (∀ k r, m2 k = some r → 0 ≤ r ∧ Sz n2 r) ∧ 0 < n1 ∧ 0 < n2 ∧ n1 + n2 ≤ 8000 ∧ k1.length ≤ 1000 ∧ k2.length ≤ 1000 ∧
  ∀ p H' kvs, Ext H H' → H p = none → H' p = some (dO P w p kvs) → MapD K H' kvs (addM m1 m2) → Q (.ref p) H'
theorem scAdd : FnScope ["_law_one", "_law_other", "_law_found", "_law_key"] ["_law_one", "_law_other"] (defScope (top 64)) := ⟨rfl, rfl, rfl, by decide +kernel, rfl, by decide +kernel, by decide +kernel⟩
/-- the map behind i turns -/
def addI (m1 m2 : Option Str → Option Rat) (ks : List (Option Str)) (k : Option Str) : Option Rat := if k ∈ ks then addM m1 m2 k else m1 k
theorem ok_add (Z : Wd K mg) : C8.Cal P w K mg base 5 "_law_added" (spAdd P w K) [] := by
  refine cal (st := top 64) Z.d__law_added Z.g__law_added scAdd (fun vs H Q E h => ?_) (fun _ _ _ _ _ _ us hl => match us, hl with | [_, _], _ => rfl) fun cdv A outer s H vs Q E hr h => ?_
  · obtain ⟨d1, d2, k1, k2, m1, m2, n1, n2, rfl, _⟩ := h
    rfl
  · obtain ⟨d1, d2, k1, k2, m1, m2, n1, n2, rfl, hd1, hd2, M1, M2', b1, b2, n10, n20, nn, l1, l2, q⟩ := h
    have mP := met_plus (P := P) (w := w) (base := base) Z
    refine ⟨_, PSs.nox (pss_cons (ps_set (i := 2) scAdd.nd rfl (.inl rfl) (pe_callTy cr_dictD (by rfl) Z.f_dict (by decide +kernel) (pa_cons (pv 0) pa_nil)))
      (pss_cons (ps_lock (ps_for PassesOwn.never rfl (pi_okeys (pv 1)) (pg_name (i := 3) scAdd.nd rfl (Or.inl rfl))
        (pss_one (ps_oput (pv 2) (pv 3) (C8.pe_mt mP hr (by decide) (pe_oget2 (pv 2) (pv 3) (pe_mkI (mak_w1 (P := P) (w := w) (base := base) Z) hr (by decide) (by rfl) rW1_imp (pa_cons pe_int pa_nil)) ⟨by rfl, by rfl, by rfl, by rfl⟩) (pa_cons (pe_oget (pv 1) (pv 3) (fun _ _ => rfl)) pa_nil)) rfl))))
      (pss_one (ps_ret (pv 2))))), ?_⟩
    refine ⟨_, rfl, d1, k1, rfl, .inl hd1, fun F nF => ?_⟩
    have hd2F := (upd_ne (o := dO P w F k1) (H := H) (ne_of_none hd2 nF)).trans hd2
    have nd2F : d2 ≠ F := ne_of_none hd2 nF
    refine ⟨d2, _, hd2F, True.intro, fun od => ?_⟩
    have hL : upd (upd H F (dO P w F k1)) d2 (.frz od (dO P w d2 k2)) d2 = some (.frz od (dO P w d2 k2)) := upd_same
    have hF : upd (upd H F (dO P w F k1)) d2 (.frz od (dO P w d2 k2)) F = some (dO P w F k1) := by rw [upd_ne (Ne.symm nd2F), upd_same]
    have nin : ∀ (a : Addr) (kvs : List (Option Str × V)) (C dx : Addr) (fs : List (Str × V)), dO P w a kvs ≠ .ins C dx fs := fun a kvs C dx fs z => by
      unfold dO at z
      cases z
    have w0 : ∀ p r, WAt K H p r → WAt K (upd (upd H F (dO P w F k1)) d2 (.frz od (dO P w d2 k2))) p r := fun p r z => (z.upd (ne_of_none z.choose_spec nF)).upd (z.ne hd2 (nin _ _))
    let H0 : Hp := upd (upd H F (dO P w F k1)) d2 (.frz od (dO P w d2 k2))
    have MF : MapD K H0 k1 m1 := M1.tr w0
    have MO : MapD K H0 k2 m2 := M2'.tr w0
    refine ⟨_, rfl, d2, od, k2, rfl, hL, ?_⟩
    refine for_okeys (fun i σ H3 => (∃ a, σ = [some (.ref d1), some (.ref d2), some (.ref F), a]) ∧ EB F H0 H3 ∧ ∃ kvs, H3 F = some (dO P w F kvs) ∧ kvs.length ≤ k1.length + i ∧ MapD K H3 kvs (addI m1 m2 ((k2.take i).map (·.1)))) ⟨⟨none, rfl⟩, EB.rfl', k1, hF, by omega, MF.congr fun k => by unfold addI; rw [if_neg (by simp)]⟩
      (fun i σ H3 p => p.2.1 _ _ nd2F hL) (fun i k v σ H3 hk p => ?_) fun σ H3 p => ?_
    · obtain ⟨⟨a, rfl⟩, e3, kvs, hF3, lk, M3⟩ := p
      have hi : i < k2.length := (List.getElem?_eq_some_iff.mp hk).1
      have inK : k ∈ k2.map (·.1) := List.mem_map.mpr ⟨_, List.mem_of_getElem? hk, rfl⟩
      have notIn : k ∉ (k2.take i).map (·.1) := fun z => by
        have nd := M2'.1
        have e1 : (k2.map (·.1))[i]? = some k := by rw [List.getElem?_map, hk]; rfl
        rw [List.map_take] at z
        obtain ⟨j, hj⟩ := List.getElem?_of_mem z
        rw [List.getElem?_take] at hj
        split at hj
        · rename_i hji
          obtain ⟨y1, y2⟩ := List.getElem?_eq_some_iff.mp e1
          obtain ⟨y3, y4⟩ := List.getElem?_eq_some_iff.mp hj
          have := (List.getElem_inj nd).mp (y4.trans y2.symm)
          omega
        · cases hj
      have e3w : ∀ p r, WAt K H0 p r → WAt K H3 p r := fun p r z => by
        obtain ⟨dx, y⟩ := id z
        exact ⟨dx, e3 _ _ (z.ne hF (nin _ _)) y⟩
      have MO3 := MO.tr e3w
      obtain ⟨r2, w2, g2, v2, wr2⟩ : ∃ r2 w2, m2 k = some r2 ∧ valV k2 k = some (.ref w2) ∧ WAt K H3 w2 r2 := by
        rcases MO3.2 k with ⟨_, z⟩ | z
        · exact absurd inK (valV_none.mp z)
        · exact z
      obtain ⟨r20, r2z⟩ := b2 k r2 g2
      refine ⟨_, rfl, F, rfl, ⟨kvs, .inl hF3⟩, _, rfl, ?_⟩
      refine ⟨0, rfl, by decide, Nat.pow_pos (by decide), fun p0 H4 e4 np0 wp0 => ?_⟩
      have hF4 := e4 _ _ hF3
      have M4 := M3.kp (Kp.of e4)
      -- what stands there, or nought
      have got : ∃ (o : Option V) (wp : Addr) (r : Rat), valV kvs k = o ∧ o.getD (.ref p0) = .ref wp ∧ WAt K H4 wp r ∧ r = (m1 k).getD 0 ∧ 0 ≤ r ∧ Sz n1 r := by
        have am : addI m1 m2 ((k2.take i).map (·.1)) k = m1 k := by
          unfold addI
          rw [if_neg notIn]
        rcases M4.2 k with ⟨z1, z2⟩ | ⟨r, wp, z1, z2, z3⟩
        · rw [am] at z1
          refine ⟨none, p0, 0, z2, rfl, (show WAt K H4 p0 ((0 : Int) : Rat) from wp0), by rw [z1]; rfl, Rat.le_refl, Sz.zero.mono (by omega)⟩
        · rw [am] at z1
          obtain ⟨y1, y2⟩ := b1 k r z1
          exact ⟨some (.ref wp), wp, r, z2, rfl, z3, by rw [z1]; rfl, y1, y2⟩
      obtain ⟨o, wp, r, go1, go2, wr, er, r0, rz⟩ := got
      obtain ⟨dwp, wr'⟩ := id wr
      refine ⟨o, ⟨kvs, k, .inl hF4, rfl, go1⟩, wp, dwp, _, go2, wr', rfl, ?_⟩
      have hd24 : H4 d2 = some (.frz od (dO P w d2 k2)) := e4 _ _ (e3 _ _ nd2F hL)
      refine ⟨_, rfl, _, rfl, d2, .ref w2, rfl, ⟨k2, k, .inr ⟨od, hd24⟩, rfl, v2⟩, ?_⟩
      rw [go2]
      refine ⟨wp, w2, r, r2, n1, n2, rfl, wr, wr2.kp (Kp.of e4), r0, r20, rz, r2z, n10, n20, nn, fun pn H5 e5 npn wpn => ?_⟩
      have hF5 := e5 _ _ hF4
      refine ⟨_, rfl, _, rfl, F, kvs, k, rfl, hF5, rfl, by rw [sizeLine_eq]; omega, ⟨_, rfl⟩, ?_, _, upd_same, ?_, ?_⟩
      · intro b u nb z
        rw [upd_ne nb]
        exact e5 _ _ (e4 _ _ (e3 _ _ nb z))
      · have := length_putK kvs k (.ref pn)
        omega
      · have wF : ∀ p r, WAt K H5 p r → WAt K (upd H5 F (dO P w F (putK kvs k (.ref pn)))) p r := fun p r z => z.upd (z.ne hF5 (nin _ _))
        have M5 : MapD K H5 (putK kvs k (.ref pn)) _ := M4.put (k := k) (Kp.of e5) wpn
        refine (M5.tr wF).congr fun j => ?_
        unfold addI
        rw [take_snoc hk, List.map_append]
        show (if j ∈ _ ++ [k] then _ else _) = _
        by_cases ej : j = k
        · subst ej
          rw [if_pos rfl, if_pos (List.mem_append_right _ (List.mem_cons_self))]
          unfold addM
          rw [g2, er]
        · rw [if_neg ej]
          by_cases c : j ∈ (k2.take i).map (·.1)
          · rw [if_pos c, if_pos (List.mem_append_left _ c)]
          · rw [if_neg c, if_neg fun z => by
              rcases List.mem_append.mp z with y | y
              · exact c y
              · exact ej (List.mem_singleton.mp y)]
    · obtain ⟨⟨a, rfl⟩, e3, kvs, hF3, lk, M3⟩ := p
      rw [List.take_length] at M3
      have hd23 := e3 _ _ nd2F hL
      refine ⟨hd23, _, rfl, q F _ kvs ?_ nF ((upd_ne (Ne.symm nd2F)).trans hF3) ?_⟩
      · intro b o z
        by_cases hb : b = d2
        · subst hb
          rw [upd_same]
          rw [hd2] at z
          exact z
        · rw [upd_ne hb]
          have nbF : b ≠ F := ne_of_none z nF
          refine e3 _ _ nbF ?_
          show upd (upd H F (dO P w F k1)) d2 (.frz od (dO P w d2 k2)) b = some o
          rw [upd_ne hb, upd_ne nbF]
          exact z
      · have wF : ∀ p r, WAt K H3 p r → WAt K (upd H3 d2 (dO P w d2 k2)) p r := fun p r z => z.upd (z.ne hd23 (fun _ _ _ y => by cases y))
        refine (M3.tr wF).congr fun k => ?_
        unfold addI
        by_cases c : k ∈ k2.map (·.1)
        · rw [if_pos c]
        · rw [if_neg c]
          unfold addM
          rcases M2'.2 k with ⟨z, _⟩ | ⟨r, wp, z, y, _⟩
          · rw [z]
          · rw [valV_none.mpr c] at y
            cases y
end
end K34
set_option Elab.async false
set_option linter.all false
set_option maxRecDepth 100000
set_option maxHeartbeats 4000000
/-! K34R: shares add up. -/
namespace K34
open PySem PySem.Spec PyProof.Rows L2
theorem lookup_mem {β : Type} {k : Option Str} {v : β} : ∀ {l : List (Option Str × β)}, (l.map (·.1)).Nodup → (l.lookup k = some v ↔ (k, v) ∈ l)
  | [], _ => by simp
  | (a, b) :: l, nd => by
    rw [List.map_cons] at nd
    obtain ⟨n1, n2⟩ := List.nodup_cons.mp nd
    have ih := lookup_mem (k := k) (v := v) n2
    by_cases e : k = a
    · subst e
      rw [List.lookup_cons_self, List.mem_cons]
      constructor
      · intro z
        cases z
        exact .inl rfl
      · rintro (z | z)
        · cases z
          rfl
        · exact absurd (List.mem_map.mpr ⟨_, z, rfl⟩) n1
    · rw [List.lookup_cons, beq_eq_false_iff_ne.mpr e, List.mem_cons]
      constructor
      · intro z
        exact .inr (ih.mp z)
      · rintro (z | z)
        · cases z
          exact absurd rfl e
        · exact ih.mpr z
theorem lookup_perm {β : Type} {l m : List (Option Str × β)} (p : l.Perm m) (nd : (l.map (·.1)).Nodup) (k : Option Str) : l.lookup k = m.lookup k := by
  have nd' : (m.map (·.1)).Nodup := (p.map _).nodup_iff.mp nd
  refine Option.ext fun v => ?_
  rw [lookup_mem nd, lookup_mem nd', p.mem_iff]
theorem lookup_map {β γ : Type} (f : β → γ) (k : Option Str) : ∀ l : List (Option Str × β), (l.map fun e => (e.1, f e.2)).lookup k = (l.lookup k).map f
  | [] => rfl
  | (a, b) :: l => by
    rw [List.map_cons]
    by_cases e : k = a
    · subst e
      rw [List.lookup_cons_self, List.lookup_cons_self]
      rfl
    · rw [List.lookup_cons, List.lookup_cons, beq_eq_false_iff_ne.mpr e]
      exact lookup_map f k l
/-- by what the shares are as the loss -/
def coef (v m : Rat) (l : List (Addr × NK)) : List (Option Str × Rat) := (l.map fun x => (some x.2.name, (x.2.grains : Rat))) ++ (if v - m = 0 then [] else [(none, v - m)])
theorem shares_coef (loss stock : Rat) (l : List (Addr × NK)) : shares loss stock l = if loss = 0 then [] else (coef (whl stock (many l)) (many l) (nAge l)).map fun e => (e.1, loss * e.2 / whl stock (many l)) := by
  unfold shares
  split
  · rfl
  · unfold coef shareTail
    rw [List.map_append, List.map_map]
    congr 1
    split <;> rfl
theorem isum_perm {l m : List Int} (p : l.Perm m) : l.sum = m.sum := by
  induction p with
  | nil => rfl
  | cons x _ ih => rw [List.sum_cons, List.sum_cons, ih]
  | swap x y l =>
    simp only [List.sum_cons]
    omega
  | trans _ _ a b => exact a.trans b
theorem gsum_perm {l m : List (Addr × NK)} (p : l.Perm m) : gsum l = gsum m := isum_perm (p.map _)
theorem coef_nodup {v m : Rat} {l : List (Addr × NK)} (nd : (l.map fun x => x.2.name).Nodup) : ((coef v m l).map (·.1)).Nodup := by
  unfold coef
  rw [List.map_append, List.map_map]
  refine List.nodup_append.mpr ⟨?_, ?_, ?_⟩
  · exact List.pairwise_map.mpr ((List.pairwise_map.mp nd).imp fun {x y} n e => n (Option.some.inj e))
  · split
    · exact .nil
    · exact List.pairwise_singleton _ _
  · intro a ha b hb e
    obtain ⟨x, _, rfl⟩ := List.mem_map.mp ha
    split at hb
    · cases hb
    · rw [show b = none by simpa using hb] at e
      cases e
/-- the shares as a map -/
def shM (c : Option Str → Option Rat) (v loss : Rat) (k : Option Str) : Option Rat := if loss = 0 then none else (c k).map fun x => loss * x / v
theorem shares_map (loss stock : Rat) {l m : List (Addr × NK)} (p : m.Perm l) (nd : (l.map fun x => x.2.name).Nodup) (k : Option Str) :
    (shares loss stock m).lookup k = shM (fun k => (coef (whl stock (many l)) (many l) l).lookup k) (whl stock (many l)) loss k := by
  have em : many m = many l := by
    unfold many
    rw [gsum_perm p]
  rw [shares_coef, em]
  unfold shM
  split
  · rfl
  · rw [lookup_map (fun x => loss * x / whl stock (many l))]
    congr 1
    have p2 : (nAge m).Perm l := (List.mergeSort_perm m _).trans p
    have nd2 : ((nAge m).map fun x => x.2.name).Nodup := (p2.map _).nodup_iff.mpr nd
    refine lookup_perm ?_ (coef_nodup nd2) k
    unfold coef
    exact (p2.map _).append_right _
theorem shares_nodup (loss stock : Rat) {l : List (Addr × NK)} (nd : (l.map fun x => x.2.name).Nodup) : ((shares loss stock l).map (·.1)).Nodup := by
  rw [shares_coef]
  split
  · exact .nil
  · rw [List.map_map]
    have nd2 : ((nAge l).map fun x => x.2.name).Nodup := ((List.mergeSort_perm l _).map _).nodup_iff.mpr nd
    exact coef_nodup nd2
/-- the shares of two losses come to the shares of their sum -/
theorem shares_add (c : Option Str → Option Rat) (v a b : Rat) (ha : 0 ≤ a) (hb : 0 ≤ b) (k : Option Str) : addM (shM c v a) (shM c v b) k = shM c v (a + b) k := by
  unfold addM shM
  by_cases hb0 : b = 0
  · rw [if_pos hb0, hb0, show a + 0 = a by grind]
  · rw [if_neg hb0]
    by_cases ha0 : a = 0
    · rw [if_pos ha0, ha0, show 0 + b = b by grind, if_neg hb0]
      cases c k with
      | none => rfl
      | some x =>
        show some (0 + b * x / v) = some (b * x / v)
        rw [show 0 + b * x / v = b * x / v by grind]
    · rw [if_neg ha0, if_neg (show ¬ a + b = 0 by grind)]
      cases c k with
      | none => rfl
      | some x =>
        show some (a * x / v + b * x / v) = some ((a + b) * x / v)
        congr 1
        rw [Rat.div_def, Rat.div_def, Rat.div_def]
        grind
theorem sh_sz {loss stock : Rat} {l : List (Addr × NK)} (l0 : 0 ≤ loss) (s0 : loss ≠ 0 → 0 < stock) (zl : Sz 2000 loss) (zs : Sz 300 stock) (ok : ∀ x ∈ l, NkOk x.2) (hl : l.length ≤ 8) : ∀ e ∈ shares loss stock l, 0 ≤ e.2 ∧ Sz 3300 e.2 := by
  obtain ⟨g0, g1⟩ := gsum_rng ok
  have g2 : (gsum l).natAbs < 2 ^ 24 := by
    have h8 : (l.length : Int) * 2 ^ 20 ≤ 8 * 2 ^ 20 := Int.mul_le_mul_of_nonneg_right (by omega) (by decide)
    have e : (2 : Nat) ^ 24 = 16777216 := by decide
    have e2 : (8 : Int) * 2 ^ 20 = 8388608 := by decide
    omega
  have m0 : 0 ≤ many l := Rat.intCast_nonneg.mpr g0
  have zm : Sz 24 (many l) := by
    unfold many
    rw [← int_val]
    exact Sz.mk (by decide) g2 (by decide)
  intro e he
  unfold shares at he
  by_cases z : loss = 0
  · rw [if_pos z] at he
    cases he
  rw [if_neg z] at he
  have sp := s0 z
  have w3 : 0 < whl stock (many l) ∧ Sz 300 (whl stock (many l)) ∧ many l ≤ whl stock (many l) := by
    unfold whl
    by_cases c : stock < many l
    · rw [if_pos c]
      exact ⟨by grind, zm.mono (by decide), Rat.le_refl⟩
    · rw [if_neg c]
      exact ⟨sp, zs, by grind⟩
  generalize whl stock (many l) = v at *
  obtain ⟨v0, zv, mv⟩ := w3
  have vn := num_pos v0
  have vd := v.den_pos
  have dnn : ∀ x : Rat, 0 ≤ x → 0 ≤ loss * x / v := fun x hx => by
    rw [Rat.div_def]
    exact Rat.mul_nonneg (Rat.mul_nonneg l0 hx) (Rat.le_of_lt (Rat.inv_pos.mpr v0))
  rcases List.mem_append.mp he with y | y
  · obtain ⟨x, hx, rfl⟩ := List.mem_map.mp y
    have xo := ok x (mem_nAge.mp hx)
    have x1 := xo.g1
    have x2 := xo.g2
    have e20 : (2 : Int) ^ 20 = 1048576 := by decide
    have e20' : (2 : Nat) ^ 20 = 1048576 := by decide
    refine ⟨dnn _ (Rat.intCast_nonneg.mpr (by omega)), ?_⟩
    show Sz 3300 (loss * (x.2.grains : Rat) / v)
    rw [← share_val loss v x.2.grains v0]
    exact (zl.mul (a := 320) (c := 300) (wide_lt (show x.2.grains.natAbs < 2 ^ 20 by omega) (show (v.den : Int).natAbs < 2 ^ 300 from zv.2)) zv.1 vn).2.2.mono (by decide)
  · unfold shareTail at y
    by_cases r0 : v - many l = 0
    · rw [if_pos r0] at y
      cases y
    · rw [if_neg r0] at y
      rw [List.mem_singleton.mp y]
      have rp : 0 < v - many l := by grind
      refine ⟨dnn _ (Rat.le_of_lt rp), ?_⟩
      show Sz 3300 (loss * (v - many l) / v)
      have zr := (zv.sub zm).2.2
      have rn := num_pos rp
      have rd := (v - many l).den_pos
      rw [← share_rest loss (v - many l) v v0]
      exact (zl.mul (a := 625) (c := 625) (wide_lt zr.1 (show (v.den : Int).natAbs < 2 ^ 300 from zv.2)) (wide_lt (show ((v - many l).den : Int).natAbs < 2 ^ 325 from zr.2) zv.1) (Int.mul_pos (by omega) vn)).2.2.mono (by decide)
end K34
set_option Elab.async false
set_option linter.all false
set_option maxRecDepth 100000
set_option maxHeartbeats 4000000
/-! K34R2: _law_shares_right. -/
namespace K34
open PySem PySem.Spec PyProof.Rows L2
section
variable {P : Program} {w : World} {K : PySem.W.Frag} {mg : Str → Option Value} {base : Heap}
theorem SqT.eb {H H' : Hp} {d a : Addr} {N : Nat} {xs : List V} (h : SqT K H a xs) (e : EB d H H') (dk : DeckAt H d N) : SqT K H' a xs := by
  rcases h with (h | ⟨o, h⟩) | h
  · exact .inl (.inl (e _ _ (dk.ne h fun _ z => by cases z) h))
  · exact .inl (.inr ⟨o, e _ _ (dk.ne h fun _ z => by cases z) h⟩)
  · exact .inr h
/-- == of two dicts of one map -/
theorem eq_maps {X : Cx} {H : Hp} {a b : Addr} {ka kb : List (Option Str × V)} {m : Option Str → Option Rat} {Q : VK} (hab : a ≠ b) (ha : H a = some (dO X.prog X.w a ka)) (hb : H b = some (dO X.prog X.w b kb)) (Ma : MapD X.K H ka m) (Mb : MapD X.K H kb m) (q : ∀ H', Ext H H' → Q (.bl true) H') : rEqO X (DW X.K) (.ref a) (.ref b) H Q := by
  have nin : ∀ (a : Addr) (kvs : List (Option Str × V)) (C dx : Addr) (fs : List (Str × V)), dO X.prog X.w a kvs ≠ .ins C dx fs := fun a kvs C dx fs z => by
    unfold dO at z
    cases z
  refine ⟨a, b, ka, kb, rfl, rfl, hab, ha, hb, Ma.len Mb, fun k v hkv => ?_, q⟩
  have hk : k ∈ ka.map (·.1) := List.mem_map.mpr ⟨_, hkv, rfl⟩
  have hv : valV ka k = some v := by
    have key : ∀ l : List (Option Str × V), (l.map (·.1)).Nodup → (k, v) ∈ l → valV l k = some v := by
      intro l
      induction l with
      | nil => intro _ h; cases h
      | cons p l ih =>
        intro nd h
        rw [List.map_cons] at nd
        obtain ⟨n1, n2⟩ := List.nodup_cons.mp nd
        rcases List.mem_cons.mp h with rfl | h
        · exact valV_pos rfl
        · rw [valV_neg fun z => n1 (by rw [z]; exact List.mem_map.mpr ⟨_, h, rfl⟩)]
          exact ih n2 h
    exact key ka Ma.1 hkv
  rcases Ma.2 k with ⟨_, z⟩ | ⟨r, wa, m1, v1, w1⟩
  · rw [z] at hv
    cases hv
  rcases Mb.2 k with ⟨z, _⟩ | ⟨r', wb, m2, v2, w2⟩
  · rw [z] at m1
    cases m1
  rw [m1] at m2
  cases m2
  rw [v1] at hv
  cases hv
  refine ⟨.ref wb, v2, fun H' kb' => ?_⟩
  have t : ∀ p q, WAt X.K H p q → WAt X.K H' p q := fun p q z => by
    obtain ⟨dx, y⟩ := id z
    exact ⟨dx, kb' _ _ (z.ne ha (nin _ _)) (z.ne hb (nin _ _)) y⟩
  exact dw_of (t _ _ w1) (t _ _ w2)
theorem eqGW {X : Cx} (c : EqC X.prog X.w X.K X.mg X.base) (m : Meth X.K (CW X.K) "__eq__" (He.ma X.K (CW X.K) "__eq__")) : EqG X 1 (DW X.K) := (rcW c m).eqG fun _ _ _ z => let ⟨a, b, _, _, _, _, hx, hy, _⟩ := z; ⟨a, b, hx, hy⟩
/-- the stock of a ware -/
def stockOf (l : List (Addr × CK)) (z : Str) : Rat := (l.map fun x => wof x.2.parts z).sum
theorem wof_sz20 {ps : List (Str × Rat)} (ok : PartsOk ps) (h : ∀ p ∈ ps, Sz 20 p.2) (z : Str) : Sz 20 (wof ps z) := by
  rcases wof_cases ok z with e | ⟨y, _⟩
  · rw [e]
    exact Sz.zero.mono (by decide)
  · exact h _ y
theorem stock_ok {l : List (Addr × CK)} (ok : CasksOk l) (h20 : ∀ x ∈ l, ∀ p ∈ x.2.parts, Sz 20 p.2) (z : Str) : 0 ≤ stockOf l z ∧ Sz 300 (stockOf l z) := by
  have key : ∀ q ∈ l.map (fun x => wof x.2.parts z), 0 ≤ q ∧ Sz 20 q := fun q hq => by
    obtain ⟨x, hx, rfl⟩ := List.mem_map.mp hq
    exact ⟨wof_nn (ok.ok x hx).parts z, wof_sz20 (ok.ok x hx).parts (h20 x hx) z⟩
  refine ⟨sum_nn fun q hq => (key q hq).1, (sum_sz (n := 20) (by decide) fun q hq => (key q hq).2).mono ?_⟩
  rw [List.length_map]
  have := ok.few
  omega
def spSr (K : PySem.W.Frag) : Sp := fun vs H Q _ => ∃ (d a nt : Addr) (z : Str) (l : List (Addr × CK)) (ln : List (Addr × NK)) (N : Nat), vs = [.ref d, .ref a, .str z, .ref nt] ∧ DeckAt H d N ∧ N ≤ 2 ^ 38 ∧ SqT K H a (l.map fun x : Addr × CK => V.ref x.1) ∧ CasksAt K H l ∧ CasksOk l ∧ (∀ x ∈ l, ∀ p ∈ x.2.parts, Sz 20 p.2) ∧
  SqT K H nt (ln.map fun x : Addr × NK => V.ref x.1) ∧ NotesAt K H ln ∧ (∀ x ∈ ln, NkOk x.2) ∧ ln.length ≤ 8 ∧ (ln.map fun x => x.2.name).Nodup ∧ ∀ H', EB d H H' → DeckAt H' d (N + 3) → Q (.bl true) H'
abbrev nsSr : List Str := ["_law_deck_here", "_law_casks_here", "_law_ware", "_law_notes_here", "_law_stock", "_law_by", "_law_one", "_law_other", "_law_told_here", "_law_more_here", "_law_cask"]
theorem scSr : FnScope nsSr ["_law_deck_here", "_law_casks_here", "_law_ware", "_law_notes_here"] (defScope (top 66)) := ⟨rfl, rfl, rfl, by decide +kernel, rfl, by decide +kernel, by decide +kernel⟩
theorem ok_sr (Z : Wd K mg) : C8.Cal P w K mg base 8 "_law_shares_right" (spSr K) [] := by
  refine cal (st := top 66) Z.d__law_shares_right Z.g__law_shares_right scSr (fun vs H Q E h => ?_) (fun _ _ _ _ _ _ us hl => match us, hl with | [_, _, _, _], _ => rfl) fun cdv A outer s H vs Q E hr h => ?_
  · obtain ⟨d, a, nt, z, l, ln, N, rfl, _⟩ := h
    rfl
  · obtain ⟨d, a, nt, z, l, ln, N, rfl, dk, hN, hs, hc, ok, h20, hns, hn, okn, hln, nd, q⟩ := h
    have cT := ok_total (P := P) (w := w) (base := base) Z
    have cD := ok_draw (P := P) (w := w) (base := base) Z
    have cS := ok_sh (P := P) (w := w) (base := base) Z
    have cA := ok_add (P := P) (w := w) (base := base) Z
    have mW := met_wof (P := P) (w := w) (base := base) Z
    have mT := met_times (P := P) (w := w) (base := base) Z
    have mL := met_less (P := P) (w := w) (base := base) Z
    have mP := met_plus (P := P) (w := w) (base := base) Z
    refine ⟨_, PSs.nox (pss_cons (ps_set (i := 4) scSr.nd rfl (.inl rfl) (C8.pe_c cT hr (by decide) (by rfl) (pa_cons (pe_callTy call_tuple_of (by rfl) Z.f_tuple (by decide +kernel) (pa_cons (pe_lc (own := [("_law_cask", 10)]) (g := gName 10) (tt := tYes) rfl scSr.nd (pi_tup (pv 1)) (blkOk_by (own := [("_law_cask", 10)]) (N := nsSr) (sc := defScope (top 66)) (by decide +kernel))
        (fun _ _ _ _ _ => pg_name (i := 10) scSr.nd rfl (Or.inl rfl)) (fun _ _ _ _ _ => pts_nil) (fun _ _ _ _ _ => C8.pe_mt mW hr (by decide) (pv 10) (pa_cons (pv 2) pa_nil))) pa_nil)) pa_nil)))
      (pss_cons (ps_set (i := 5) scSr.nd rfl (.inl rfl) (pe_op op_add pe_int (C8.pe_c cD hr (by decide) (by rfl) (pa_cons (pv 0) (pa_cons pe_int pa_nil)))))
      (pss_cons (ps_set (i := 6) scSr.nd rfl (.inl rfl) (C8.pe_mt mT hr (by decide) (pv 4) (pa_cons (C8.pe_c cD hr (by decide) (by rfl) (pa_cons (pv 0) (pa_cons (pv 5) pa_nil))) (pa_cons (pv 5) pa_nil))))
      (pss_cons (ps_set (i := 7) scSr.nd rfl (.inl rfl) (C8.pe_mt mT hr (by decide) (C8.pe_mt mL hr (by decide) (pv 4) (pa_cons (pv 6) pa_nil)) (pa_cons pe_int (pa_cons (pe_op op_add pe_int (C8.pe_c cD hr (by decide) (by rfl) (pa_cons (pv 0) (pa_cons pe_int pa_nil)))) pa_nil))))
      (pss_cons (ps_set (i := 8) scSr.nd rfl (.inl rfl) (pe_callTy (cr_dictK rfl rfl rfl rfl) (by rfl) Z.f_dict (by decide +kernel) (pa_cons (C8.pe_c cS hr (by decide) (by rfl) (pa_cons (pv 6) (pa_cons (pv 4) (pa_cons (pv 3) pa_nil)))) pa_nil)))
      (pss_cons (ps_set (i := 9) scSr.nd rfl (.inl rfl) (pe_callTy (cr_dictK rfl rfl rfl rfl) (by rfl) Z.f_dict (by decide +kernel) (pa_cons (C8.pe_c cS hr (by decide) (by rfl) (pa_cons (pv 7) (pa_cons (pv 4) (pa_cons (pe_revT (pv 3)) pa_nil)))) pa_nil)))
      (pss_one (ps_ret (pe_cmpR (op_eqO (eqGW (eqc Z) Z.m_Weight___eq__) (hr.mono (by decide))) (C8.pe_c cA hr (by decide) (by rfl) (pa_cons (pv 8) (pa_cons (pv 9) pa_nil)))
        (pe_callTy (cr_dictK rfl rfl rfl rfl) (by rfl) Z.f_dict (by decide +kernel) (pa_cons (C8.pe_c cS hr (by decide) (by rfl) (pa_cons (C8.pe_mt mP hr (by decide) (pv 6) (pa_cons (pv 7) pa_nil)) (pa_cons (pv 4) (pa_cons (pv 3) pa_nil)))) pa_nil)) (nomark _)))))))))), ?_⟩
    have e38 : (2 : Nat) ^ 38 = 274877906944 := by decide
    have e40 : (2 : Nat) ^ 40 = 1099511627776 := by decide
    have few := ok.few
    refine ⟨_, rfl, a, rfl, ⟨_, hs⟩, fun D nD => lc_it (walk_tup (xs := l.map fun x : Addr × CK => V.ref x.1)) (fun i H1 => Ext H H1 ∧ ∃ ws : List Addr, H1 D = some (.lst (ws.map V.ref)) ∧ WsAt K H1 ws ((l.take i).map fun x => wof x.2.parts z)) ⟨Ext.upd nD, [], upd_same, .nil⟩ (fun i H1 _ p => hs.ext p.1) (fun i x H1 H2 hi p y => ?_) fun H1 p => ?_⟩
    · obtain ⟨e, ws, hD, hw⟩ := p
      obtain ⟨rfl, hx⟩ := y
      rw [List.getElem?_map] at hx
      obtain ⟨c, hcu, rfl⟩ := Option.map_eq_some_iff.mp hx
      have cm := List.mem_of_getElem? hcu
      have ca := (hc c cm).kp (Kp.of e)
      obtain ⟨dc, tc, hcc, _⟩ := id ca
      have lw := hw.len
      rw [List.length_map, List.length_take] at lw
      refine ⟨rfl, _, rfl, c.1, dc, _, rfl, hcc, rfl, _, rfl, c.1, c.2, z, rfl, ca, (ok.ok c cm).parts, fun p H3 e3 np wp => ?_⟩
      have hD3 := e3 _ _ hD
      refine ⟨_, hD3, by rw [List.length_map, sizeLine_eq]; omega, Ext.put (e.trans e3) nD, ws ++ [p], ?_, ?_⟩
      · rw [upd_same, List.map_append]
        rfl
      · rw [take_snoc hcu, List.map_append]
        exact paired_snoc (wp.kp (Kp.put hD3)) ((hw.ext e3).kp (Kp.put hD3))
    obtain ⟨e, ws, hD, hw⟩ := p
    rw [List.length_map, List.take_length] at hw
    obtain ⟨st0, stz⟩ := stock_ok ok h20 z
    refine ⟨D, _, rfl, .inl ⟨SqL.of hD, fun T nT => ?_⟩⟩
    have hwT : WsAt K (upd H1 T (.tup (ws.map V.ref))) ws (l.map fun x => wof x.2.parts z) := hw.ext (Ext.upd nT)
    have n0 : 0 < 20 := by decide
    refine ⟨T, ws, l.map fun x => wof x.2.parts z, 20, rfl, .inr (SqT.of upd_same), hwT, fun r hr => ?_, n0, ?_, fun ps H2 e2 nps wps => ?_⟩
    · obtain ⟨x, hx, rfl⟩ := List.mem_map.mp hr
      exact ⟨wof_nn (ok.ok x hx).parts z, wof_sz20 (ok.ok x hx).parts (h20 x hx) z⟩
    · rw [List.length_map]
      exact Nat.le_trans (Nat.mul_le_mul_right 21 (show l.length + 1 ≤ 13 by omega)) (by decide)
    have E2 : Ext H H2 := (e.trans (Ext.upd nT)).trans e2
    have dk2 := dk.ext E2
    refine ⟨_, rfl, d, 5, N, rfl, by decide, by decide, dk2, by omega, fun r1 H3 r10 r11 e3 dk3 => ⟨_, _, rfl, rfl, ?_⟩⟩
    have ws3 : WAt K H3 ps (stockOf l z) := wps.kp (e3.kp dk2)
    obtain ⟨ds, hs3⟩ := id ws3
    refine ⟨_, rfl, ps, ds, _, rfl, hs3, rfl, ?_⟩
    refine ⟨_, rfl, _, rfl, d, 2 + r1, N + 1, rfl, by omega, by omega, dk3, by omega, fun r2 H4 r20 r21 e4 dk4 => ?_⟩
    have ws4 := ws3.kp (e4.kp dk3)
    have zr2 : r2.natAbs < 2 ^ 3 := by
      have e8 : (2 : Nat) ^ 3 = 8 := by decide
      omega
    have zby : (2 + r1).natAbs < 2 ^ 3 := by
      have e8 : (2 : Nat) ^ 3 = 8 := by decide
      omega
    refine ⟨_, rfl, ps, stockOf l z, r2, 2 + r1, 300, 3, 3, rfl, ws4, st0, r20, by omega, stz, zr2, zby, by decide, by decide, by decide, by decide, fun po H5 e5 npo wo => ?_⟩
    -- the two losses
    have oz := (stz.mul zr2 zby (by omega)).2.2
    have one0 : 0 ≤ stockOf l z * (r2 : Rat) / ((2 + r1 : Int) : Rat) ∧ stockOf l z * (r2 : Rat) / ((2 + r1 : Int) : Rat) ≤ stockOf l z := by
      have h1 : (0 : Rat) ≤ (r2 : Rat) := Rat.intCast_nonneg.mpr r20
      have h2 : (0 : Rat) < ((2 + r1 : Int) : Rat) := by
        have a1 : (0 : Rat) ≤ ((2 + r1 : Int) : Rat) := Rat.intCast_nonneg.mpr (by omega)
        have a2 : ((2 + r1 : Int) : Rat) ≠ 0 := cast_ne (by omega)
        grind
      have h3 : (r2 : Rat) ≤ ((2 + r1 : Int) : Rat) := Rat.intCast_le_intCast.mpr (by omega)
      generalize (r2 : Rat) = x at *
      generalize ((2 + r1 : Int) : Rat) = y at *
      refine ⟨?_, ?_⟩
      · rw [Rat.div_def]
        exact Rat.mul_nonneg (Rat.mul_nonneg st0 h1) (Rat.le_of_lt (Rat.inv_pos.mpr h2))
      · have hi := Rat.inv_pos.mpr h2
        have hc := Rat.mul_inv_cancel y (by grind)
        have hm := Rat.mul_le_mul_of_nonneg_right (Rat.mul_le_mul_of_nonneg_left h3 st0) (Rat.le_of_lt hi)
        rw [Rat.div_def]
        refine Rat.le_trans hm ?_
        rw [Rat.mul_assoc, hc, Rat.mul_one]
        exact Rat.le_refl
    generalize hone : stockOf l z * (r2 : Rat) / ((2 + r1 : Int) : Rat) = one at *
    obtain ⟨o0, o1⟩ := one0
    have ws5 := ws4.kp (Kp.of e5)
    obtain ⟨ds5, hs5⟩ := id ws5
    refine ⟨_, rfl, ps, ds5, _, rfl, hs5, rfl, _, rfl, ps, po, stockOf l z, one, 300, 306, rfl, ws5, wo, o0, o1, stz, oz, by decide, by decide, by decide, fun pd H6 e6 npd wd => ?_⟩
    obtain ⟨dd, hd6⟩ := id wd
    have dk6 := (dk4.ext e5).ext e6
    refine ⟨pd, dd, _, rfl, hd6, rfl, ?_⟩
    refine ⟨_, rfl, d, 3, N + 1 + 1, rfl, by decide, by decide, dk6, by omega, fun r3 H7 r30 r31 e7 dk7 => ⟨_, _, rfl, rfl, ?_⟩⟩
    have zd := (stz.sub oz).2.2
    have d0 : 0 ≤ stockOf l z - one := by grind
    have zr3 : (1 + r3).natAbs < 2 ^ 2 := by
      have e4' : (2 : Nat) ^ 2 = 4 := by decide
      omega
    have z1 : (1 : Int).natAbs < 2 ^ 1 := by decide
    refine ⟨pd, stockOf l z - one, 1, 1 + r3, 607, 1, 2, rfl, wd.kp (e7.kp dk6), d0, by decide, by omega, zd, z1, zr3, by decide, by decide, by decide, by decide, fun pt H8 e8 npt wt => ?_⟩
    have tz := (zd.mul z1 zr3 (by omega)).2.2
    have t0 : 0 ≤ (stockOf l z - one) * ((1 : Int) : Rat) / ((1 + r3 : Int) : Rat) ∧ (stockOf l z = 0 → (stockOf l z - one) * ((1 : Int) : Rat) / ((1 + r3 : Int) : Rat) = 0) := by
      have h2 : (0 : Rat) < ((1 + r3 : Int) : Rat) := by
        have a1 : (0 : Rat) ≤ ((1 + r3 : Int) : Rat) := Rat.intCast_nonneg.mpr (by omega)
        have a2 : ((1 + r3 : Int) : Rat) ≠ 0 := cast_ne (by omega)
        grind
      refine ⟨?_, fun zz => ?_⟩
      · rw [Rat.div_def]
        exact Rat.mul_nonneg (Rat.mul_nonneg d0 (by decide)) (Rat.le_of_lt (Rat.inv_pos.mpr h2))
      · have : stockOf l z - one = 0 := by grind
        rw [this, Rat.zero_mul, Rat.div_def, Rat.zero_mul]
    generalize hoth : (stockOf l z - one) * ((1 : Int) : Rat) / ((1 + r3 : Int) : Rat) = oth at *
    obtain ⟨t0, t1⟩ := t0
    have k58 : Kp H5 H8 := ((Kp.of e6).trans (e7.kp dk6)).trans (Kp.of e8)
    have k48 : Kp H4 H8 := (Kp.of e5).trans k58
    have E28 : EB d H2 H8 := (((e3.trans e4).trans (EB.of e5)).trans (EB.of e6)).trans (e7.trans (EB.of e8))
    have EH8 : EB d H H8 := (EB.of E2).trans E28
    have dk8 := dk7.ext e8
    have ws8 := ws4.kp k48
    have wo8 := wo.kp k58
    have k08 := EH8.kp dk
    have n8 := hn.kp k08
    have sq8 := SqT.eb hns EH8 dk
    have oz' : Sz 2000 one := oz.mono (by decide)
    have tz' : Sz 2000 oth := tz.mono (by decide)
    have sp : ∀ x : Rat, x = one ∨ x = oth ∨ x = one + oth → x ≠ 0 → 0 < stockOf l z := fun x hx nx => by
      by_cases c : stockOf l z = 0
      · have := t1 c
        grind
      · grind
    refine ⟨_, rfl, _, rfl, _, rfl, po, ps, nt, one, stockOf l z, ln, rfl, wo8, ws8, o0, st0, sp one (.inl rfl), oz', stz, sq8, n8, okn, hln, fun p9 H9 ts9 e9 hp9 hts9 => ?_⟩
    refine ⟨p9, ts9, _, rfl, hp9, hts9, shares_nodup one _ nd, fun d1 H10 k1 e10 nd1 hd1 ent1 => ?_⟩
    have e810 := e9.trans e10
    refine ⟨_, rfl, _, rfl, _, rfl, nt, _, rfl, sq8.ext e810, fun R nR => ?_⟩
    have sqR : SqT K (upd H10 R (.tup (ln.map fun x : Addr × NK => V.ref x.1).reverse)) R (ln.reverse.map fun x : Addr × NK => V.ref x.1) := by
      rw [List.map_reverse]
      exact SqT.of upd_same
    have e811 : Ext H8 (upd H10 R (.tup (ln.map fun x : Addr × NK => V.ref x.1).reverse)) := e810.trans (Ext.upd nR)
    have ndr : (ln.reverse.map fun x => x.2.name).Nodup := by
      rw [List.map_reverse]
      exact (List.reverse_perm _).nodup_iff.mpr nd
    refine ⟨pt, ps, R, oth, stockOf l z, ln.reverse, rfl, wt.kp (Kp.of e811), ws8.kp (Kp.of e811), t0, st0, sp oth (.inr (.inl rfl)), tz', stz, sqR, (fun x hx => (n8 x (List.mem_reverse.mp hx)).kp (Kp.of e811)), (fun x hx => okn x (List.mem_reverse.mp hx)), by rw [List.length_reverse]; exact hln, fun p12 H12 ts12 e12 hp12 hts12 => ?_⟩
    refine ⟨p12, ts12, _, rfl, hp12, hts12, shares_nodup oth _ ndr, fun d2 H13 k2 e13 nd2 hd2 ent2 => ?_⟩
    have e1013 : Ext H10 H13 := ((Ext.upd nR).trans e12).trans e13
    have M1 := (MapD.of ent1 (shares_nodup one _ nd)).kp (Kp.of e1013)
    have M2' := MapD.of ent2 (shares_nodup oth _ ndr)
    have lk1 : k1.length ≤ 1000 ∧ k2.length ≤ 1000 := by
      have z1 := Paired.length ent1
      have z2 := Paired.length ent2
      have bound : ∀ (x : Rat) (m : List (Addr × NK)), m.length ≤ 8 → (shares x (stockOf l z) m).length ≤ 1000 := fun x m hm => by
        unfold shares
        split
        · exact Nat.zero_le _
        · rw [List.length_append, List.length_map, len_nAge]
          unfold shareTail
          split
          · rw [List.length_nil]
            omega
          · rw [List.length_singleton]
            omega
      exact ⟨z1 ▸ bound _ _ hln, z2 ▸ bound _ _ (by rw [List.length_reverse]; exact hln)⟩
    refine ⟨_, rfl, _, rfl, d1, d2, k1, k2, _, _, 3300, 3300, rfl, e1013 _ _ hd1, hd2, M1, M2', fun k r hk => sh_sz o0 (sp one (.inl rfl)) oz' stz okn hln (k, r) ((lookup_mem (shares_nodup one _ nd)).mp hk), fun k r hk => sh_sz t0 (sp oth (.inr (.inl rfl))) tz' stz (fun x hx => okn x (List.mem_reverse.mp hx)) (by rw [List.length_reverse]; exact hln) (k, r) ((lookup_mem (shares_nodup oth _ ndr)).mp hk), by decide, by decide, by decide, lk1.1, lk1.2, fun d3 H14 k3 e14 nd3 hd3 M3 => ?_⟩
    have e814 : Ext H8 H14 := (e810.trans e1013).trans e14
    obtain ⟨do14, ho14⟩ := id (wo8.kp (Kp.of e814))
    have e114 : Ext (upd H10 R (.tup (ln.map fun x : Addr × NK => V.ref x.1).reverse)) H14 := (e12.trans e13).trans e14
    refine ⟨_, rfl, po, do14, _, rfl, ho14, rfl, _, rfl, po, pt, one, oth, 306, 610, rfl, wo8.kp (Kp.of e814), wt.kp (Kp.of e814), o0, t0, oz, tz, by decide, by decide, by decide, fun pu H15 e15 npu wu => ?_⟩
    have e815 := e814.trans e15
    have sz2 : Sz 2000 (one + oth) := (oz.add tz).2.2.mono (by decide)
    refine ⟨_, rfl, _, rfl, pu, ps, nt, one + oth, stockOf l z, ln, rfl, wu, ws8.kp (Kp.of e815), by grind, st0, sp (one + oth) (.inr (.inr rfl)), sz2, stz, sq8.ext e815, n8.kp (Kp.of e815), okn, hln, fun p16 H16 ts16 e16 hp16 hts16 => ?_⟩
    refine ⟨p16, ts16, _, rfl, hp16, hts16, shares_nodup (one + oth) _ nd, fun d4 H17 k4 e17 nd4 hd4 ent4 => ?_⟩
    have e1417 := (e15.trans e16).trans e17
    have M4 := MapD.of ent4 (shares_nodup (one + oth) _ nd)
    have ne34 : d3 ≠ d4 := fun y => by
      have := (e15.trans e16) _ _ hd3
      rw [y, nd4] at this
      cases this
    have M3' : MapD K H17 k3 fun k => (shares (one + oth) (stockOf l z) ln).lookup k := (M3.kp (Kp.of e1417)).congr fun k => by
      have p1 := shares_map one (stockOf l z) (List.Perm.refl ln) nd
      have p2 := shares_map oth (stockOf l z) (List.reverse_perm ln) nd
      have p3 := shares_map (one + oth) (stockOf l z) (List.Perm.refl ln) nd
      rw [p3, ← shares_add _ _ one oth o0 t0 k]
      simp only [addM]
      rw [p1 k, p2 k]
    refine eq_maps ne34 (e1417 _ _ hd3) hd4 M3' M4 fun H18 e18 => q H18 (EH8.trans (EB.of ((e815.trans (e16.trans e17)).trans e18))) ((dk8.ext ((e815.trans (e16.trans e17)).trans e18)).mono (by omega))
end
end K34
set_option Elab.async false
set_option linter.all false
set_option maxRecDepth 100000
set_option maxHeartbeats 2000000
/-! K34P: the plain law of takings. -/
namespace K34
open PySem PySem.Spec PyProof.Rows L2
/-! ### numbers of marks -/
theorem hv_hex : ∀ c ∈ hexC, Hx.hv c < 16 ∧ (c ≠ 48 → 1 ≤ Hx.hv c) ∧ ∀ d ∈ hexC, Hx.hv c = Hx.hv d → c = d := by decide +kernel
theorem hex_lt : ∀ {f : List Nat}, (∀ c ∈ f, c ∈ hexC) → Hx.hexNum f < 16 ^ f.length
  | [], _ => by decide
  | c :: f, h => by
    have ih := hex_lt (f := f) fun x hx => h x (List.mem_cons_of_mem _ hx)
    have h1 := (hv_hex c (h c List.mem_cons_self)).1
    rw [hexNum_cons, List.length_cons, Nat.pow_succ]
    have := Nat.mul_le_mul_right (16 ^ f.length) (show Hx.hv c + 1 ≤ 16 by omega)
    rw [Nat.add_mul, Nat.one_mul] at this
    omega
theorem hex_inj_len : ∀ {f g : List Nat}, f.length = g.length → (∀ c ∈ f, c ∈ hexC) → (∀ c ∈ g, c ∈ hexC) → Hx.hexNum f = Hx.hexNum g → f = g
  | [], [], _, _, _, _ => rfl
  | [], _ :: _, h, _, _, _ => by cases h
  | _ :: _, [], h, _, _, _ => by cases h
  | c :: f, d :: g, hl, hf, hg, e => by
    have hl' : f.length = g.length := Nat.succ.inj hl
    have a := hex_lt (f := f) fun x hx => hf x (List.mem_cons_of_mem _ hx)
    have b := hex_lt (f := g) fun x hx => hg x (List.mem_cons_of_mem _ hx)
    rw [hexNum_cons, hexNum_cons, hl'] at e
    rw [hl'] at a
    have hc : Hx.hv c = Hx.hv d := by
      rcases Nat.lt_trichotomy (Hx.hv c) (Hx.hv d) with h | h | h
      · have := Nat.mul_le_mul_right (16 ^ g.length) (show Hx.hv c + 1 ≤ Hx.hv d by omega)
        rw [Nat.add_mul, Nat.one_mul] at this
        omega
      · exact h
      · have := Nat.mul_le_mul_right (16 ^ g.length) (show Hx.hv d + 1 ≤ Hx.hv c by omega)
        rw [Nat.add_mul, Nat.one_mul] at this
        omega
    rw [hc] at e
    have ih := hex_inj_len hl' (fun x hx => hf x (List.mem_cons_of_mem _ hx)) (fun x hx => hg x (List.mem_cons_of_mem _ hx)) (by omega)
    rw [(hv_hex c (hf c List.mem_cons_self)).2.2 d (hg d List.mem_cons_self) hc, ih]
theorem hex_le {f g : List Nat} (hf : FigOk f) (hg : FigOk g) (h : f.length < g.length) : Hx.hexNum f < Hx.hexNum g := by
  have a := hex_lt hf.all
  have l1 : 0 < f.length := List.length_pos_iff.mpr hf.ne
  rcases hg.lead with z | ⟨c, r, z, nz⟩
  · rw [z, List.length_singleton] at h
    omega
  · have hc := (hv_hex c (hg.all c (by rw [z]; exact List.mem_cons_self))).2.1 nz
    rw [z, hexNum_cons]
    rw [z, List.length_cons] at h
    have b := Nat.mul_le_mul_right (16 ^ r.length) hc
    have d : 16 ^ f.length ≤ 16 ^ r.length := Nat.pow_le_pow_right (by decide) (by omega)
    omega
theorem fig_inj {f g : List Nat} (hf : FigOk f) (hg : FigOk g) (e : Hx.hexNum f = Hx.hexNum g) : f = g := by
  rcases Nat.lt_trichotomy f.length g.length with h | h | h
  · have := hex_le hf hg h
    omega
  · exact hex_inj_len h hf.all hg.all e
  · have := hex_le hg hf h
    omega
/-! ### the order -/
def byK (ks : List CK) : List CK := ks.mergeSort ckLe
theorem byAge_K (l : List (Addr × CK)) : (byAge l).map (·.2) = byK (l.map (·.2)) := by
  unfold byAge byK
  exact List.map_mergeSort fun a _ b _ => rfl
def holdsK (z : Str) (ks : List CK) : List (Str × Rat) := ks.map fun k => (mk k.fig, wof k.parts z)
theorem holds_K (z : Str) (l : List (Addr × CK)) : holds z (byAge l) = holdsK z (byK (l.map (·.2))) := by
  rw [← byAge_K]
  unfold holds holdsK
  rw [List.map_map]
  rfl
theorem ckLe_trans (a b c : CK) (h1 : ckLe a b = true) (h2 : ckLe b c = true) : ckLe a c = true := by
  unfold ckLe at *
  simp only [decide_eq_true_eq] at *
  omega
theorem ckLe_total (a b : CK) : (ckLe a b || ckLe b a) = true := by
  unfold ckLe
  simp only [Bool.or_eq_true, decide_eq_true_eq]
  omega
/-- the order told does not matter -/
theorem byK_perm {ks js : List CK} (p : ks.Perm js) (ok : ∀ k ∈ ks, FigOk k.fig) (nd : (ks.map (·.fig)).Nodup) : byK ks = byK js := by
  have p1 := List.mergeSort_perm ks ckLe
  have p2 := List.mergeSort_perm js ckLe
  refine List.Perm.eq_of_pairwise (le := fun a b => ckLe a b = true) (fun a b ha hb h1 h2 => ?_) (List.pairwise_mergeSort ckLe_trans ckLe_total ks) (List.pairwise_mergeSort ckLe_trans ckLe_total js) ((p1.trans p).trans p2.symm)
  have ma : a ∈ ks := p1.mem_iff.mp ha
  have mb : b ∈ ks := p.mem_iff.mpr (p2.mem_iff.mp hb)
  unfold ckLe at h1 h2
  simp only [decide_eq_true_eq] at h1 h2
  have ef : a.fig = b.fig := fig_inj (ok a ma) (ok b mb) (by omega)
  obtain ⟨i, hi⟩ := List.getElem?_of_mem ma
  obtain ⟨j, hj⟩ := List.getElem?_of_mem mb
  obtain ⟨i1, i2⟩ := List.getElem?_eq_some_iff.mp hi
  obtain ⟨j1, j2⟩ := List.getElem?_eq_some_iff.mp hj
  have : i = j := by
    have l1 : i < (ks.map fun k : CK => k.fig).length := by rw [List.length_map]; exact i1
    have l2 : j < (ks.map fun k : CK => k.fig).length := by rw [List.length_map]; exact j1
    exact (List.getElem_inj (h₀ := l1) (h₁ := l2) nd).mp (by rw [List.getElem_map, List.getElem_map, i2, j2, ef])
  subst this
  rw [← i2, ← j2]
theorem lessK_fig (z : Str) (es : List (Str × Rat)) (k : CK) : (lessK z es k).fig = k.fig ∧ (lessK z es k).since = k.since := by
  unfold lessK
  split <;> exact ⟨rfl, rfl⟩
theorem byK_less (z : Str) (es : List (Str × Rat)) (ks : List CK) : byK (ks.map (lessK z es)) = (byK ks).map (lessK z es) := by
  unfold byK
  refine (List.map_mergeSort fun a _ b _ => ?_).symm
  unfold ckLe
  rw [(lessK_fig z es a).1, (lessK_fig z es a).2, (lessK_fig z es b).1, (lessK_fig z es b).2]
/-! ### taking by turns -/
theorem fold_app (xs : List (Str × Rat)) : ∀ s : List (Str × Rat) × Rat, xs.foldl tkStep s = (s.1 ++ (xs.foldl tkStep ([], s.2)).1, (xs.foldl tkStep ([], s.2)).2) := by
  induction xs with
  | nil => intro s; simp
  | cons x xs ih =>
    intro s
    rw [List.foldl_cons, List.foldl_cons, ih (tkStep s x), ih (tkStep ([], s.2) x)]
    unfold tkStep
    dsimp only
    split
    · simp
    · simp
theorem tk_nil (g : Rat) : tk g [] = ([], g) := rfl
theorem tk_cons (g : Rat) (x : Str × Rat) (xs : List (Str × Rat)) : tk g (x :: xs) = ((if tkT g x.2 = 0 then [] else [(x.1, tkT g x.2)]) ++ (tk (g - tkT g x.2) xs).1, (tk (g - tkT g x.2) xs).2) := by
  unfold tk
  rw [List.foldl_cons, fold_app]
  unfold tkStep
  dsimp only
  split
  · rfl
  · rfl
/-- what is left in each -/
def rem (g : Rat) : List (Str × Rat) → List (Str × Rat)
  | [] => []
  | x :: xs => (x.1, x.2 - tkT g x.2) :: rem (g - tkT g x.2) xs
/-- by turns as at once -/
theorem tkT_add {a b w : Rat} (ha : 0 ≤ a) (hb : 0 ≤ b) (hw : 0 ≤ w) : tkT (a + b) w = tkT a w + tkT b (w - tkT a w) := by
  unfold tkT
  split <;> split <;> split <;> grind
theorem tk_two : ∀ (xs : List (Str × Rat)) (a b : Rat), 0 ≤ a → 0 ≤ b → (∀ x ∈ xs, 0 ≤ x.2) → (tk (a + b) xs).2 = (tk a xs).2 + (tk b (rem a xs)).2
  | [], a, b, _, _, _ => rfl
  | x :: xs, a, b, ha, hb, h => by
    have hw := h x List.mem_cons_self
    obtain ⟨t1, t2, t3⟩ := tkT_rng ha hw
    obtain ⟨u1, u2, u3⟩ := tkT_rng hb (show 0 ≤ x.2 - tkT a x.2 by grind)
    have e := tkT_add ha hb hw
    have ih := tk_two xs (a - tkT a x.2) (b - tkT b (x.2 - tkT a x.2)) (by grind) (by grind) fun y hy => h y (List.mem_cons_of_mem _ hy)
    rw [tk_cons, tk_cons]
    unfold rem
    rw [tk_cons]
    dsimp only
    rw [← ih, e]
    congr 2
    grind
theorem tk_zero : ∀ (xs : List (Str × Rat)), (∀ x ∈ xs, 0 ≤ x.2) → tk 0 xs = ([], 0)
  | [], _ => rfl
  | x :: xs, h => by
    have hw := h x List.mem_cons_self
    have e : tkT 0 x.2 = 0 := by
      unfold tkT
      split <;> grind
    rw [tk_cons, e, if_pos rfl, show (0 : Rat) - 0 = 0 by grind, tk_zero xs fun y hy => h y (List.mem_cons_of_mem _ hy)]
    rfl
/-- short once, short by as much more -/
theorem tk_short : ∀ (xs : List (Str × Rat)) (a b : Rat), 0 ≤ a → 0 ≤ b → (∀ x ∈ xs, 0 ≤ x.2) → (tk a xs).2 ≠ 0 → (tk (a + b) xs).2 = (tk a xs).2 + b
  | [], a, b, _, _, _, _ => rfl
  | x :: xs, a, b, ha, hb, h, n => by
    have hw := h x List.mem_cons_self
    have ht : ∀ y ∈ xs, 0 ≤ y.2 := fun y hy => h y (List.mem_cons_of_mem _ hy)
    rw [tk_cons] at n
    dsimp only at n
    have nl : ¬ a < x.2 := fun c => by
      apply n
      have e : tkT a x.2 = a := by
        unfold tkT
        rw [if_pos c]
      rw [e, show a - a = 0 by grind, tk_zero xs ht]
    have e : tkT a x.2 = x.2 := by
      unfold tkT
      rw [if_neg nl]
    have e2 : tkT (a + b) x.2 = x.2 := by
      unfold tkT
      rw [if_neg (by grind)]
    rw [e] at n
    have ih := tk_short xs (a - x.2) b (by grind) hb ht n
    rw [tk_cons, tk_cons, e, e2]
    dsimp only
    rw [← ih]
    congr 2
    grind
theorem tk_sum : ∀ (xs : List (Str × Rat)) (g : Rat), ((tk g xs).1.map (·.2)).sum + (tk g xs).2 = g
  | [], g => by
    rw [tk_nil]
    show (0 : Rat) + g = g
    exact Rat.zero_add g
  | x :: xs, g => by
    have ih := tk_sum xs (g - tkT g x.2)
    rw [tk_cons]
    dsimp only
    split
    · rename_i z
      rw [List.nil_append, ih, z]
      grind
    · rw [List.singleton_append, List.map_cons, List.sum_cons]
      grind
theorem tk_in : ∀ (xs : List (Str × Rat)) (g : Rat), 0 ≤ g → (∀ x ∈ xs, 0 ≤ x.2) → ∀ e ∈ (tk g xs).1, 0 < e.2 ∧ ∃ x ∈ xs, x.1 = e.1 ∧ e.2 ≤ x.2
  | [], g, _, _, e, he => by
    rw [tk_nil] at he
    cases he
  | x :: xs, g, hg, h, e, he => by
    have hw := h x List.mem_cons_self
    obtain ⟨t1, t2, t3⟩ := tkT_rng hg hw
    rw [tk_cons] at he
    rcases List.mem_append.mp he with y | y
    · split at y
      · cases y
      · rename_i nz
        rw [List.mem_singleton.mp y]
        exact ⟨by show 0 < tkT g x.2; grind, x, List.mem_cons_self, rfl, t3⟩
    · obtain ⟨a, b, c, d⟩ := tk_in xs (g - tkT g x.2) (by grind) (fun y hy => h y (List.mem_cons_of_mem _ hy)) e y
      exact ⟨a, b, List.mem_cons_of_mem _ c, d⟩
/-- what is taken: a cask's whole, or what was left -/
theorem tk_size {n : Nat} : ∀ (xs : List (Str × Rat)) (m : Nat) (g : Rat), 0 ≤ g → Sz m g → (∀ x ∈ xs, 0 ≤ x.2 ∧ Sz n x.2) → ∀ e ∈ (tk g xs).1, Sz (m + xs.length * (n + 1)) e.2 ∧ ∀ w, (∃ x ∈ xs, x = (e.1, w)) → True
  | [], m, g, _, _, _, e, he => by
    rw [tk_nil] at he
    cases he
  | x :: xs, m, g, hg, gz, h, e, he => by
    obtain ⟨hw, wz⟩ := h x List.mem_cons_self
    obtain ⟨t1, t2, t3⟩ := tkT_rng hg hw
    refine ⟨?_, fun _ _ => trivial⟩
    have tz : Sz (m + n + 1) (tkT g x.2) ∧ Sz (m + n + 1) (g - tkT g x.2) := by
      unfold tkT
      split
      · rw [show g - g = 0 by grind]
        exact ⟨gz.mono (by omega), Sz.zero.mono (by omega)⟩
      · exact ⟨wz.mono (by omega), (gz.sub wz).2.2⟩
    have ln : m + (x :: xs).length * (n + 1) = (m + n + 1) + xs.length * (n + 1) := by
      rw [List.length_cons, Nat.add_mul]
      omega
    rw [ln]
    rw [tk_cons] at he
    rcases List.mem_append.mp he with y | y
    · split at y
      · cases y
      · rw [List.mem_singleton.mp y]
        exact tz.1.mono (by omega)
    · exact (tk_size xs (m + n + 1) (g - tkT g x.2) (by grind) tz.2 (fun y hy => h y (List.mem_cons_of_mem _ hy)) e y).1
/-- lookups -/
theorem tk_none {g : Rat} {xs : List (Str × Rat)} {m : Str} (h : m ∉ xs.map (·.1)) : (tk g xs).1.lookup m = none := by
  have s := tk_names g xs
  rw [List.lookup_eq_none_iff]
  intro p hp
  refine bne_iff_ne.mpr fun e => ?_
  exact h (s.subset (List.mem_map.mpr ⟨p, hp, e.symm⟩))
theorem tk_look {g : Rat} {x : Str × Rat} {xs : List (Str × Rat)} (nd : ((x :: xs).map (·.1)).Nodup) (m : Str) : (tk g (x :: xs)).1.lookup m = if m = x.1 then (if tkT g x.2 = 0 then none else some (tkT g x.2)) else (tk (g - tkT g x.2) xs).1.lookup m := by
  rw [List.map_cons] at nd
  obtain ⟨n1, n2⟩ := List.nodup_cons.mp nd
  rw [tk_cons]
  by_cases e : m = x.1
  · subst e
    rw [if_pos rfl]
    by_cases c : tkT g x.2 = 0
    · rw [if_pos c, if_pos c, List.nil_append]
      exact tk_none n1
    · rw [if_neg c, if_neg c, List.singleton_append, List.lookup_cons_self]
  · rw [if_neg e]
    by_cases c : tkT g x.2 = 0
    · rw [if_pos c, List.nil_append]
    · rw [if_neg c, List.singleton_append, List.lookup_cons, beq_eq_false_iff_ne.mpr e]
theorem rem_eq : ∀ (xs : List (Str × Rat)) (g : Rat), (xs.map (·.1)).Nodup → rem g xs = xs.map fun x => (x.1, x.2 - ((tk g xs).1.lookup x.1).getD 0)
  | [], _, _ => rfl
  | x :: xs, g, nd => by
    have nd' := nd
    rw [List.map_cons] at nd'
    obtain ⟨n1, n2⟩ := List.nodup_cons.mp nd'
    have ih := rem_eq xs (g - tkT g x.2) n2
    unfold rem
    rw [ih, List.map_cons, tk_look nd, if_pos rfl]
    congr 1
    · congr 1
      split
      · rename_i z
        rw [z]
        rfl
      · rfl
    · refine List.map_congr_left fun y hy => ?_
      rw [tk_look nd, if_neg fun e => n1 (by rw [← e]; exact List.mem_map.mpr ⟨y, hy, rfl⟩)]
/-- mark by mark -/
theorem tk_map : ∀ (xs : List (Str × Rat)) (a b : Rat), 0 ≤ a → 0 ≤ b → (∀ x ∈ xs, 0 ≤ x.2) → (xs.map (·.1)).Nodup → ∀ m : Str,
    (tk (a + b) xs).1.lookup m = match (tk b (rem a xs)).1.lookup m with | none => (tk a xs).1.lookup m | some r => some (((tk a xs).1.lookup m).getD 0 + r)
  | [], _, _, _, _, _, _, _ => rfl
  | x :: xs, a, b, ha, hb, h, nd, m => by
    have hw := h x List.mem_cons_self
    obtain ⟨t1, t2, t3⟩ := tkT_rng ha hw
    obtain ⟨u1, u2, u3⟩ := tkT_rng hb (show 0 ≤ x.2 - tkT a x.2 by grind)
    have e := tkT_add ha hb hw
    have nd' := nd
    rw [List.map_cons] at nd'
    obtain ⟨n1, n2⟩ := List.nodup_cons.mp nd'
    have ih := tk_map xs (a - tkT a x.2) (b - tkT b (x.2 - tkT a x.2)) (by grind) (by grind) (fun y hy => h y (List.mem_cons_of_mem _ hy)) n2 m
    have ndr : ((rem a (x :: xs)).map (·.1)).Nodup := by
      rw [rem_eq _ _ nd, List.map_map]
      exact nd
    rw [tk_look nd, tk_look nd]
    unfold rem
    unfold rem at ndr
    rw [tk_look ndr]
    dsimp only
    by_cases c : m = x.1
    · rw [if_pos c, if_pos c, if_pos c]
      by_cases c1 : tkT b (x.2 - tkT a x.2) = 0
      · rw [if_pos c1]
        rw [c1] at e
        rw [e, show tkT a x.2 + 0 = tkT a x.2 by grind]
      · rw [if_neg c1, if_neg (show ¬ tkT (a + b) x.2 = 0 by grind)]
        by_cases c2 : tkT a x.2 = 0
        · rw [if_pos c2, e, c2]
          rfl
        · rw [if_neg c2, e]
          rfl
    · rw [if_neg c, if_neg c, if_neg c, ← ih]
      congr 3
      grind
end K34
set_option Elab.async false
set_option linter.all false
set_option maxRecDepth 100000
set_option maxHeartbeats 2000000
/-! K34P2: casks behind a taking. -/
namespace K34
open PySem PySem.Spec PyProof.Rows L2
theorem wof_mem {ps : List (Str × Rat)} (ok : PartsOk ps) {z : Str} {q : Rat} (h : (z, q) ∈ ps) : wof ps z = q := by
  rcases wof_cases ok z with e | ⟨y, _⟩
  · exfalso
    have m : q ∈ wqs ps z := by
      unfold wqs
      exact List.mem_map.mpr ⟨_, List.mem_filter.mpr ⟨h, decide_eq_true rfl⟩, rfl⟩
    rcases wqs_one ok z with n | ⟨q', n, h'⟩
    · rw [n] at m
      cases m
    · have e' : wof ps z = q' := by
        unfold wof
        rw [n, List.sum_cons, List.sum_nil]
        grind
      have := ok.pos _ h'
      rw [e'] at e
      rw [e] at this
      exact absurd this (show ¬ (0 : Rat) < 0 by decide)
  · exact part_one ok y h
theorem wof_less {ps : List (Str × Rat)} (ok : PartsOk ps) {z : Str} {q r : Rat} (h : (z, q) ∈ ps) (r0 : 0 ≤ r) (rz : Sz 300 r) : wof (lessP ps z r) z = r := by
  have ok' := lessP_ok ok (z := z) r0 rz
  by_cases e : r = 0
  · subst e
    rcases wof_cases ok' z with y | ⟨y, _⟩
    · exact y
    · exfalso
      obtain ⟨p, hp, g⟩ := List.mem_filterMap.mp y
      obtain ⟨n, _⟩ := lessF_name g
      unfold lessF at g
      rw [if_pos (show p.1 = z from n.symm), if_pos rfl] at g
      cases g
  · refine wof_mem ok' (List.mem_filterMap.mpr ⟨_, h, ?_⟩)
    unfold lessF
    rw [if_pos rfl, if_neg e]
theorem lessP_len {z : Str} {r : Rat} : ∀ {ps : List (Str × Rat)}, (ps.map (·.1)).Nodup → (z ∈ ps.map (·.1) → (lessP ps z r).length = ps.length - if r = 0 then 1 else 0) ∧ (z ∉ ps.map (·.1) → (lessP ps z r).length = ps.length)
  | [], _ => ⟨fun h => absurd h (by simp), fun _ => rfl⟩
  | p :: ps, nd => by
    rw [List.map_cons] at nd ⊢
    obtain ⟨n1, n2⟩ := List.nodup_cons.mp nd
    obtain ⟨i1, i2⟩ := lessP_len (z := z) (r := r) n2
    unfold lessP at *
    by_cases c : p.1 = z
    · have i2' := i2 (by rw [← c]; exact n1)
      refine ⟨fun _ => ?_, fun h => absurd (by rw [c]; exact List.mem_cons_self) h⟩
      by_cases e : r = 0
      · rw [List.filterMap_cons_none (show lessF z r p = none by unfold lessF; rw [if_pos c, if_pos e]), i2', if_pos e, List.length_cons]
        omega
      · rw [List.filterMap_cons_some (show lessF z r p = some (z, r) by unfold lessF; rw [if_pos c, if_neg e]), if_neg e, List.length_cons, List.length_cons, i2']
        omega
    · rw [List.filterMap_cons_some (show lessF z r p = some p by unfold lessF; rw [if_neg c])]
      refine ⟨fun h => ?_, fun h => ?_⟩
      · have h' : z ∈ ps.map (·.1) := by
          rcases List.mem_cons.mp h with y | y
          · exact absurd y.symm c
          · exact y
        rw [List.length_cons, List.length_cons, i1 h']
        have : 0 < ps.length := by
          obtain ⟨q, hq, _⟩ := List.mem_map.mp h'
          exact List.length_pos_of_mem hq
        split <;> omega
      · rw [List.length_cons, List.length_cons, i2 fun y => h (List.mem_cons_of_mem _ y)]
theorem parts_nd {ps : List (Str × Rat)} (ok : PartsOk ps) : (ps.map (·.1)).Nodup := by
  have h1 : (ps.map (·.1)).Pairwise ltS := List.pairwise_map.mpr ok.up
  exact List.Pairwise.imp (S := fun a b : Str => a ≠ b) (fun {a b} (h : ltS a b) (e : a = b) => ltS_irr a (by rw [← e] at h; exact h)) h1
theorem look_in {m : Str} {r : Rat} : ∀ {es : List (Str × Rat)}, es.lookup m = some r → (m, r) ∈ es
  | [], h => by cases h
  | (a, b) :: es, h => by
    by_cases e : m = a
    · subst e
      rw [List.lookup_cons_self] at h
      cases h
      exact List.mem_cons_self
    · rw [List.lookup_cons, beq_eq_false_iff_ne.mpr e] at h
      exact List.mem_cons_of_mem _ (look_in h)
theorem fig_one {l : List (Addr × CK)} (nd : (l.map fun x => x.2.fig).Nodup) {x y : Addr × CK} (hx : x ∈ l) (hy : y ∈ l) (e : x.2.fig = y.2.fig) : x = y := by
  obtain ⟨i, hi⟩ := List.getElem?_of_mem hx
  obtain ⟨j, hj⟩ := List.getElem?_of_mem hy
  obtain ⟨i1, i2⟩ := List.getElem?_eq_some_iff.mp hi
  obtain ⟨j1, j2⟩ := List.getElem?_eq_some_iff.mp hj
  have l1 : i < (l.map fun x => x.2.fig).length := by rw [List.length_map]; exact i1
  have l2 : j < (l.map fun x => x.2.fig).length := by rw [List.length_map]; exact j1
  have : i = j := (List.getElem_inj (h₀ := l1) (h₁ := l2) nd).mp (by rw [List.getElem_map, List.getElem_map, i2, j2, e])
  subst this
  rw [← i2, ← j2]
section
variable {l : List (Addr × CK)} {z : Str}
theorem mem_holds {y : Str × Rat} : y ∈ holds z (byAge l) ↔ ∃ x ∈ l, (mk x.2.fig, wof x.2.parts z) = y := by
  unfold holds
  rw [List.mem_map]
  exact ⟨fun ⟨x, hx, e⟩ => ⟨x, mem_byAge.mp hx, e⟩, fun ⟨x, hx, e⟩ => ⟨x, mem_byAge.mpr hx, e⟩⟩
theorem holds_ok {n : Nat} (ok : CasksOk l) (hz : ∀ x ∈ l, Sz n (wof x.2.parts z)) : (∀ y ∈ holds z (byAge l), 0 ≤ y.2 ∧ Sz n y.2) ∧ ((holds z (byAge l)).map (·.1)).Nodup ∧ (holds z (byAge l)).length ≤ 12 := by
  refine ⟨fun y hy => ?_, holds_nodup ok.nd, ?_⟩
  · obtain ⟨x, hx, rfl⟩ := mem_holds.mp hy
    exact ⟨wof_nn (ok.ok x hx).parts z, hz x hx⟩
  · unfold holds
    rw [List.length_map, len_byAge]
    exact ok.few
theorem holds_rev (ok : CasksOk l) : holds z (byAge l.reverse) = holds z (byAge l) := by
  rw [holds_K, holds_K, byK_perm (ks := l.map (·.2)) (js := l.reverse.map (·.2)) ((List.reverse_perm l).symm.map _)]
  · intro k hk
    obtain ⟨x, hx, rfl⟩ := List.mem_map.mp hk
    exact (ok.ok x hx).fig
  · rw [List.map_map]
    exact ok.nd
/-- what a taking took -/
theorem tk_ok {n : Nat} {g : Rat} (ok : CasksOk l) (hz : ∀ x ∈ l, Sz n (wof x.2.parts z)) (g0 : 0 ≤ g) (gz : Sz 20 g) : ∀ e ∈ (tk g (holds z (byAge l))).1, 0 < e.2 ∧ Sz (20 + 12 * (n + 1)) e.2 ∧ (∃ x ∈ l, mk x.2.fig = e.1) ∧ ∀ x ∈ l, mk x.2.fig = e.1 → e.2 ≤ wof x.2.parts z := by
  intro e he
  obtain ⟨h1, _, h3⟩ := holds_ok ok hz
  obtain ⟨a, y, hy, e1, e2⟩ := tk_in _ g g0 (fun y hy => (h1 y hy).1) e he
  obtain ⟨x, hx, rfl⟩ := mem_holds.mp hy
  refine ⟨a, (tk_size (n := n) _ 20 g g0 gz h1 e he).1.mono (by have := Nat.mul_le_mul_right (n + 1) h3; omega), ⟨x, hx, e1⟩, fun x' hx' e' => ?_⟩
  have : x' = x := fig_one ok.nd hx' hx (mk_inj (e'.trans e1.symm))
  rw [this]
  exact e2
theorem tk_len {g : Rat} (ok : CasksOk l) : (tk g (holds z (byAge l))).1.length ≤ 12 ∧ ((tk g (holds z (byAge l))).1.map (·.1)).Nodup := by
  have s := tk_names g (holds z (byAge l))
  refine ⟨?_, (holds_nodup ok.nd).sublist s⟩
  have := s.length_le
  rw [List.length_map, List.length_map] at this
  unfold holds at *
  rw [List.length_map, len_byAge] at this
  exact Nat.le_trans this ok.few
/-- behind a taking -/
theorem less_ok {g : Rat} (ok : CasksOk l) (h20 : ∀ x ∈ l, ∀ p ∈ x.2.parts, Sz 20 p.2) (g0 : 0 ≤ g) (gz : Sz 20 g) : ∀ x ∈ l, ∀ r, (tk g (holds z (byAge l))).1.lookup (mk x.2.fig) = some r → 0 < r ∧ r ≤ wof x.2.parts z ∧ Sz 300 r ∧ Sz 300 (wof x.2.parts z - r) := by
  intro x hx r hr
  have hz : ∀ x ∈ l, Sz 20 (wof x.2.parts z) := fun x hx => wof_sz20 (ok.ok x hx).parts (h20 x hx) z
  obtain ⟨a, b, _, d⟩ := tk_ok ok hz g0 gz _ (look_in hr)
  exact ⟨a, d x hx rfl, b.mono (by decide), ((hz x hx).sub b).2.2.mono (by decide)⟩
/-- what is left in a cask -/
theorem lessK_ok {es : List (Str × Rat)} {k : CK} (ok : CkOk k) (h : ∀ r, es.lookup (mk k.fig) = some r → 0 < r ∧ r ≤ wof k.parts z ∧ Sz 300 r ∧ Sz 300 (wof k.parts z - r)) :
    CkOk (lessK z es k) ∧ wof (lessK z es k).parts z = wof k.parts z - (es.lookup (mk k.fig)).getD 0 ∧ (∀ r, es.lookup (mk k.fig) = some r → ((lessK z es k).parts.length : Int) = k.parts.length - if wof k.parts z - r = 0 then 1 else 0) := by
  cases e : es.lookup (mk k.fig) with
  | none =>
    have ek : lessK z es k = k := by
      unfold lessK
      rw [e]
    rw [ek]
    refine ⟨ok, ?_, fun r hr => by cases hr⟩
    show _ = _ - (0 : Rat)
    grind
  | some r =>
    obtain ⟨r0, r1, _, r3⟩ := h r e
    have inP : (z, wof k.parts z) ∈ k.parts := by
      rcases wof_cases ok.parts z with y | ⟨y, _⟩
      · rw [y] at r1
        exfalso
        grind
      · exact y
    have ek : lessK z es k = ⟨k.fig, k.since, lessP k.parts z (wof k.parts z - r)⟩ := by
      unfold lessK
      rw [e]
    have l0 : 0 ≤ wof k.parts z - r := by grind
    rw [ek]
    refine ⟨⟨ok.fig, ok.d0, ok.d1, lessP_ok ok.parts l0 r3⟩, wof_less ok.parts inP l0 r3, fun r' hr => ?_⟩
    cases hr
    have := (lessP_len (r := wof k.parts z - r) (parts_nd ok.parts)).1 (List.mem_map.mpr ⟨_, inP, rfl⟩)
    show ((lessP k.parts z (wof k.parts z - r)).length : Int) = _
    have lp := List.length_pos_of_mem inP
    rw [this]
    split <;> omega
theorem left_holds {l' : List (Addr × CK)} {a : Rat} (ok : CasksOk l) (h20 : ∀ x ∈ l, ∀ p ∈ x.2.parts, Sz 20 p.2) (a0 : 0 ≤ a) (az : Sz 20 a) (e : l'.map (·.2) = l.map fun x => lessK z (tk a (holds z (byAge l))).1 x.2) :
    holds z (byAge l') = rem a (holds z (byAge l)) := by
  have lo := less_ok (z := z) ok h20 a0 az
  rw [rem_eq _ _ (holds_nodup ok.nd), holds_K z l', e]
  generalize (tk a (holds z (byAge l))).1 = es at *
  rw [show (l.map fun x => lessK z es x.2) = (l.map (·.2)).map (lessK z es) by rw [List.map_map]; rfl, byK_less, ← byAge_K]
  unfold holdsK holds
  rw [List.map_map, List.map_map, List.map_map]
  refine List.map_congr_left fun x hx => ?_
  have hx' := mem_byAge.mp hx
  obtain ⟨_, b, _⟩ := lessK_ok (ok.ok x hx') (lo x hx')
  show (mk (lessK z es x.2).fig, wof (lessK z es x.2).parts z) = (mk x.2.fig, _)
  rw [b, (lessK_fig z es x.2).1]
theorem left_ok {l' : List (Addr × CK)} {a : Rat} (ok : CasksOk l) (h20 : ∀ x ∈ l, ∀ p ∈ x.2.parts, Sz 20 p.2) (a0 : 0 ≤ a) (az : Sz 20 a) (e : l'.map (·.2) = l.map fun x => lessK z (tk a (holds z (byAge l))).1 x.2) : CasksOk l' := by
  have lo := less_ok (z := z) ok h20 a0 az
  have ll : l'.length = l.length := by
    have := congrArg List.length e
    rw [List.length_map, List.length_map] at this
    exact this
  refine ⟨fun x hx => ?_, by rw [ll]; exact ok.few, ?_⟩
  · have : x.2 ∈ l'.map (·.2) := List.mem_map.mpr ⟨x, hx, rfl⟩
    rw [e] at this
    obtain ⟨y, hy, ey⟩ := List.mem_map.mp this
    rw [← ey]
    exact (lessK_ok (ok.ok y hy) (lo y hy)).1
  · rw [show (l'.map fun x => x.2.fig) = (l'.map (·.2)).map (·.fig) by rw [List.map_map]; rfl, e, List.map_map]
    rw [show ((fun k : CK => k.fig) ∘ fun x : Addr × CK => lessK z (tk a (holds z (byAge l))).1 x.2) = fun x => x.2.fig from funext fun x => (lessK_fig z _ x.2).1]
    exact ok.nd
end
theorem paired_zip {α β : Type} {R : α → β → Prop} : ∀ {xs : List α} {ys : List β}, Paired R xs ys → (xs.zip ys).map (·.1) = xs ∧ (xs.zip ys).map (·.2) = ys ∧ ∀ p ∈ xs.zip ys, R p.1 p.2
  | _, _, .nil => ⟨rfl, rfl, fun p hp => by cases hp⟩
  | _, _, .cons h t => by
    obtain ⟨a, b, c⟩ := paired_zip t
    refine ⟨by rw [List.zip_cons_cons, List.map_cons, a], by rw [List.zip_cons_cons, List.map_cons, b], fun p hp => ?_⟩
    rw [List.zip_cons_cons] at hp
    rcases List.mem_cons.mp hp with rfl | y
    · exact h
    · exact c p y
end K34
set_option Elab.async false
set_option linter.all false
set_option maxRecDepth 100000
set_option maxHeartbeats 4000000
/-! K34U: _law_twice_right. -/
namespace K34
open PySem PySem.Spec PyProof.Rows L2
section
variable {P : Program} {w : World} {K : PySem.W.Frag} {mg : Str → Option Value} {base : Heap}
/-- what was told: a dict, or what lacks -/
def Told (P : Program) (w : World) (K : PySem.W.Frag) (H : Hp) (t : List (Str × Rat) × Rat) (v1 v2 : V) : Prop :=
  (t.2 = 0 ∧ ∃ d kvs, v1 = .ref d ∧ v2 = .non ∧ H d = some (dO P w d kvs) ∧ EntD K H kvs (t.1.map omk)) ∨ (t.2 ≠ 0 ∧ ∃ pw, v1 = .non ∧ v2 = .ref pw ∧ WAt K H pw t.2)
theorem EN.dict {H H' : Hp} {d a : Addr} {kvs : List (Option Str × V)} (e : EN K H H') (h : H d = some (dO P w a kvs)) : H' d = some (dO P w a kvs) := e.1 _ _ h fun ps z => by
  unfold dO at z
  cases z
theorem Told.en {H H' : Hp} {t : List (Str × Rat) × Rat} {v1 v2 : V} (h : Told P w K H t v1 v2) (e : EN K H H') : Told P w K H' t v1 v2 := by
  rcases h with ⟨z, d, kvs, e1, e2, h1, h2⟩ | ⟨z, pw, e1, e2, h1⟩
  · exact .inl ⟨z, d, kvs, e1, e2, e.dict h1, h2.kp (Kp.ofN e.1)⟩
  · exact .inr ⟨z, pw, e1, e2, h1.kp (Kp.ofN e.1)⟩
theorem td_use {H : Hp} {Q : VK} {E : XK} {a : Addr} {l : List (Addr × CK)} {z : Str} {g : Int} (hs : SqT K H a (l.map fun x : Addr × CK => V.ref x.1)) (hc : CasksAt K H l) (ok : CasksOk l) (hT : LamX.Tabs (TT K) H) (g0 : 0 ≤ g) (g1 : g < 2 ^ 20)
    (q : ∀ T v1 v2 H', EN K H H' → H' T = some (.tup [v1, v2]) → Told P w K H' (tk g (holds z (byAge l))) v1 v2 → Q (.ref T) H') : spTd P w K [.ref a, .str z, .int g] H Q E :=
  ⟨a, l, z, g, rfl, hs, hc, ok, hT, g0, g1, fun e T d kvs H' en h1 h2 h3 => q T _ _ H' en h1 (.inl ⟨e, d, kvs, rfl, rfl, h2, h3⟩), fun e T pw H' en h1 h2 => q T _ _ H' en h1 (.inr ⟨e, pw, rfl, rfl, h2⟩)⟩
theorem SqT.en {H H' : Hp} {a : Addr} {xs : List V} (h : SqT K H a xs) (e : EN K H H') : SqT K H' a xs := by
  rcases h with (h | ⟨o, h⟩) | h
  · exact .inl (.inl (e.1 _ _ h fun _ z => by cases z))
  · exact .inl (.inr ⟨o, e.1 _ _ h fun _ z => by cases z⟩)
  · exact .inr h
theorem CasksOk.rev {l : List (Addr × CK)} (ok : CasksOk l) : CasksOk l.reverse := ⟨fun x hx => ok.ok x (List.mem_reverse.mp hx), by rw [List.length_reverse]; exact ok.few, by rw [List.map_reverse]; exact (List.reverse_perm _).nodup_iff.mpr ok.nd⟩
theorem CasksAt.en {H H' : Hp} {l : List (Addr × CK)} (h : CasksAt K H l) (e : EN K H H') : CasksAt K H' l := h.kp (Kp.ofN e.1)
theorem look_omk {m : Str} : ∀ es : List (Str × Rat), (es.map omk).lookup (some m) = es.lookup m
  | [] => rfl
  | (a, b) :: es => by
    rw [List.map_cons]
    show ((some a, b) :: es.map omk).lookup (some m) = _
    by_cases e : m = a
    · subst e
      rw [List.lookup_cons_self, List.lookup_cons_self]
    · rw [List.lookup_cons, List.lookup_cons, beq_eq_false_iff_ne.mpr e, beq_eq_false_iff_ne.mpr fun y => e (Option.some.inj y)]
      exact look_omk es
theorem look_omk0 : ∀ es : List (Str × Rat), (es.map omk).lookup none = none
  | [] => rfl
  | (a, b) :: es => by
    rw [List.map_cons]
    show ((some a, b) :: es.map omk).lookup none = _
    rw [List.lookup_cons, beq_eq_false_iff_ne.mpr (by intro y; cases y)]
    exact look_omk0 es
theorem omk_nd {es : List (Str × Rat)} (nd : (es.map (·.1)).Nodup) : ((es.map omk).map (·.1)).Nodup := by
  rw [List.map_map]
  exact List.pairwise_map.mpr ((List.pairwise_map.mp nd).imp fun {x y} n e => n (Option.some.inj e))
theorem omk_bd {es : List (Str × Rat)} {n : Nat} (nd : (es.map (·.1)).Nodup) (h : ∀ e ∈ es, 0 < e.2 ∧ Sz n e.2) : ∀ k r, (es.map omk).lookup k = some r → 0 ≤ r ∧ Sz n r := fun k r hk => by
  obtain ⟨e, he, e2⟩ := List.mem_map.mp ((lookup_mem (omk_nd nd)).mp hk)
  obtain ⟨x, y⟩ := h e he
  have : e.2 = r := congrArg Prod.snd e2
  rw [← this]
  exact ⟨Rat.le_of_lt x, y⟩
theorem ents_parts {H : Hp} : ∀ {ts : List Addr} {kvs : List (Option Str × V)} {es : List (Str × Rat)}, Paired (fun (t : Addr) (q : Option Str × V) => H t = some (.tup [oV q.1, q.2])) ts kvs → EntD K H kvs (es.map omk) → Paired (PartAt K H) ts es
  | _, _, [], .nil, _ => .nil
  | _, _, e :: es, .cons (b := q) h t, .cons ⟨h1, w, h2, h3⟩ t2 => by
    obtain ⟨k, v⟩ := q
    have h1' : k = some e.1 := h1
    have h2' : v = .ref w := h2
    subst h1' h2'
    exact .cons ⟨w, h, h3⟩ (ents_parts t t2)
def spTw (K : PySem.W.Frag) : Sp := fun vs H Q _ => ∃ (a : Addr) (l : List (Addr × CK)) (z : Str) (f s : Int), vs = [.ref a, .str z, .int f, .int s] ∧ SqT K H a (l.map fun x : Addr × CK => V.ref x.1) ∧ CasksAt K H l ∧ CasksOk l ∧ (∀ x ∈ l, ∀ p ∈ x.2.parts, Sz 20 p.2) ∧ LamX.Tabs (TT K) H ∧
  1 ≤ f ∧ f ≤ 100000 ∧ 1 ≤ s ∧ s ≤ 100000 ∧ ∀ H', EN K H H' → Q (.bl true) H'
abbrev nsTw : List Str := ["_law_casks_here", "_law_ware", "_law_first", "_law_second", "_law_both", "_law_lacks", "_law_one", "_law_short", "_law_left", "_law_other", "_law_cask", "_law_there"]
theorem scTw : FnScope nsTw ["_law_casks_here", "_law_ware", "_law_first", "_law_second"] (defScope (top 65)) := ⟨rfl, rfl, rfl, by decide +kernel, rfl, by decide +kernel, by decide +kernel⟩
theorem ok_tw (Z : Wd K mg) (TB : Tb K mg base) : C8.Cal P w K mg base 9 "_law_twice_right" (spTw K) [] := by
  refine cal (st := top 65) Z.d__law_twice_right Z.g__law_twice_right scTw (fun vs H Q E h => ?_) (fun _ _ _ _ _ _ us hl => match us, hl with | [_, _, _, _], _ => rfl) fun cdv A outer s H vs Q E hr h => ?_
  · obtain ⟨a, l, z, f, s, rfl, _⟩ := h
    rfl
  · obtain ⟨a, l, z, f, s, rfl, hs, hc, ok, h20, hT, f1, f2, s1, s2, q⟩ := h
    have cT := ok_td (P := P) (w := w) (base := base) Z TB
    have cB := ok_bh (P := P) (w := w) (base := base) Z
    have cA := ok_add (P := P) (w := w) (base := base) Z
    have cH := ok_th (P := P) (w := w) (base := base) Z
    have mW := met_wof (P := P) (w := w) (base := base) Z
    have mP := met_plus (P := P) (w := w) (base := base) Z
    have mN := met_nought (P := P) (w := w) (base := base) Z
    obtain ⟨fdL, FL, bL⟩ := (lenc (P := P) (w := w) (base := base) Z).ex
    have w1 := mak_w1 (P := P) (w := w) (base := base) Z
    refine ⟨_, PSs.nox (C8.pss_cut (ps_asg (C8.pe_c cT hr (by decide) (by rfl) (pa_cons (pv 0) (pa_cons (pv 1) (pa_cons (pe_op op_add (pv 2) (pv 3)) pa_nil)))) (pg_tup rfl (pgs_cons (pg_name (i := 4) scTw.nd rfl (Or.inl rfl)) (pgs_cons (pg_name (i := 5) scTw.nd rfl (Or.inl rfl)) pgs_nil))))
      (C8.pss_cut (ps_asg (C8.pe_c cT hr (by decide) (by rfl) (pa_cons (pe_revT (pv 0)) (pa_cons (pv 1) (pa_cons (pv 2) pa_nil)))) (pg_tup rfl (pgs_cons (pg_name (i := 6) scTw.nd rfl (Or.inl rfl)) (pgs_cons (pg_name (i := 7) scTw.nd rfl (Or.inl rfl)) pgs_nil))))
      (pss_cons (ps_if (pt_cmpR op_isN (pv 6) pe_non (nomark _)) (pss_one (ps_ret (pe_and (pe_cmpR op_notN (pv 7) pe_non (nomark _)) (pe_one (pe_cmpR (op_eqW (eqc Z) Z.m_Weight___eq__ hr (by decide)) (pv 5) (C8.pe_mt mP hr (by decide) (pv 7) (pa_cons (pe_mkI w1 hr (by decide) (by rfl) rW1_imp (pa_cons (pv 3) pa_nil)) pa_nil)) (nomark _)))))) pss_nil)
      (pss_cons (ps_set (i := 8) scTw.nd rfl (.inl rfl) (C8.pe_c cB hr (by decide) (by rfl) (pa_cons (pv 0) (pa_cons (pv 1) (pa_cons (pv 6) pa_nil)))))
      (C8.pss_cut (ps_asg (C8.pe_c cT hr (by decide) (by rfl) (pa_cons (pv 8) (pa_cons (pv 1) (pa_cons (pv 3) pa_nil)))) (pg_tup rfl (pgs_cons (pg_name (i := 9) scTw.nd rfl (Or.inl rfl)) (pgs_cons (pg_name (i := 7) scTw.nd rfl (Or.inl rfl)) pgs_nil))))
      (pss_cons (ps_for PassesOwn.never rfl (RZ.pi_zipA (by rfl) Z.f_zip (pa_cons (pv 8) (pa_cons (pv 0) pa_nil))) (pg_tup rfl (pgs_cons (pg_name (i := 10) scTw.nd rfl (Or.inl rfl)) (pgs_cons (pg_name (i := 11) scTw.nd rfl (Or.inl rfl)) pgs_nil)))
        (pss_cons (ps_if (pt_cmpR (op_neW (eqc Z) Z.m_Weight___eq__ Z.we hr (by decide)) (C8.pe_mt mP hr (by decide) (C8.pe_mt mW hr (by decide) (pv 10) (pa_cons (pv 1) pa_nil)) (pa_cons (pe_oget2 (pv 6) (pe_fldK (K := K) rfl (pv 10) (by rfl)) (pe_mkI w1 hr (by decide) (by rfl) rW1_imp (pa_cons pe_int pa_nil)) ⟨by rfl, by rfl, by rfl, by rfl⟩) pa_nil)) (C8.pe_mt mW hr (by decide) (pv 11) (pa_cons (pv 1) pa_nil)) (nomark _)) (pss_one (ps_ret pe_bl)) pss_nil)
        (pss_one (ps_if (PW.pt (pw_and (pt_cmp (pc_oinW (P := P) (w := w) rfl rfl (pe_fldK (K := K) rfl (pv 10) (by rfl)) (pv 6))) (pw_and1 (pt_cmpR op_ne (pe_callB (call_len_own FL Z.m_Cask___len__.at_ Z.m_Cask___len__.fn bL (C8.pass0 (E := C8.E0)) (hr.mono (by decide))) (by rfl) Z.f_len PySem.boot_len (pa_cons (pv 10) pa_nil))
            (pe_op op_sub (pe_callB (call_len_own FL Z.m_Cask___len__.at_ Z.m_Cask___len__.fn bL (C8.pass0 (E := C8.E0)) (hr.mono (by decide))) (by rfl) Z.f_len PySem.boot_len (pa_cons (pv 11) pa_nil)) (pe_callTy call_int1 (by rfl) Z.f_int (by decide +kernel) (pa_cons (C8.pe_mt0 mN hr (by decide) (C8.pe_mt mW hr (by decide) (pv 10) (pa_cons (pv 1) pa_nil))) pa_nil))) (nomark _))))) (pss_one (ps_ret pe_bl)) pss_nil))))
      (pss_cons (ps_if (pt_cmpR op_isN (pv 9) pe_non (nomark _)) (pss_one (ps_ret (pe_and (pe_cmpR op_isN (pv 4) pe_non (nomark _)) (pe_one (pe_cmpR (op_eqW (eqc Z) Z.m_Weight___eq__ hr (by decide)) (pv 5) (pv 7) (nomark _)))))) pss_nil)
      (pss_one (ps_ret (pe_and (pe_cmpR (op_eqO (eqGW (eqc Z) Z.m_Weight___eq__) (hr.mono (by decide))) (pv 4) (C8.pe_c cA hr (by decide) (by rfl) (pa_cons (pv 6) (pa_cons (pv 9) pa_nil))) (nomark _))
        (pe_one (C8.pe_c cH hr (by decide) (by rfl) (pa_cons (pv 0) (pa_cons (pv 1) (pa_cons (pe_op op_add (pv 2) (pv 3)) (pa_cons (pe_callTy call_tuple_of (by rfl) Z.f_tuple (by decide +kernel) (pa_cons (pe_oitems rfl (pv 4) (by rfl) Z.f_list) pa_nil)) pa_nil)))))))))))))))), ?_⟩
    have e20 : (2 : Int) ^ 20 = 1048576 := by decide
    have e20n : (2 : Nat) ^ 20 = 1048576 := by decide
    have szi : ∀ n : Int, 0 ≤ n → n < 2 ^ 20 → Sz 20 (n : Rat) := fun n n0 n1 => by
      rw [← int_val]
      exact Sz.mk (by decide) (by omega) (by decide)
    have zf := szi f (by omega) (by omega)
    have zs := szi s (by omega) (by omega)
    have f0 : (0 : Rat) ≤ (f : Rat) := Rat.intCast_nonneg.mpr (by omega)
    have s0 : (0 : Rat) ≤ (s : Rat) := Rat.intCast_nonneg.mpr (by omega)
    have snz : (s : Rat) ≠ 0 := cast_ne (by omega)
    have cst : (((f + s : Int)) : Rat) = (f : Rat) + (s : Rat) := Rat.intCast_add f s
    have hz20 : ∀ x ∈ l, Sz 20 (wof x.2.parts z) := fun x hx => wof_sz20 (ok.ok x hx).parts (h20 x hx) z
    obtain ⟨xs0, xnd, xlen⟩ := holds_ok ok hz20
    have xnn : ∀ x ∈ holds z (byAge l), 0 ≤ x.2 := fun x hx => (xs0 x hx).1
    refine ⟨fun σ' H' => EN K H H' ∧ ∃ vb vl, σ' = [some (.ref a), some (.str z), some (.int f), some (.int s), some vb, some vl, none, none, none, none, none, none] ∧ Told P w K H' (tk ((f + s : Int) : Rat) (holds z (byAge l))) vb vl, ?_, ?_⟩
    · refine ⟨_, rfl, _, rfl, _, rfl, _, rfl, _, _, rfl, rfl, ?_⟩
      dsimp only [tNil]
      refine td_use (g := f + s) hs hc ok hT (by omega) (by omega) fun T v1 v2 H1 en hT1 td => ?_
      exact ⟨T, _, rfl, SqT.of hT1, rfl, _, _, rfl, _, _, rfl, rfl, en, v1, v2, rfl, td⟩
    rintro σ1 H1 ⟨en1, vb, vl, rfl, td1⟩
    refine ⟨fun σ' H' => EN K H1 H' ∧ ∃ vo vt, σ' = [some (.ref a), some (.str z), some (.int f), some (.int s), some vb, some vl, some vo, some vt, none, none, none, none] ∧ Told P w K H' (tk (f : Rat) (holds z (byAge l))) vo vt, ?_, ?_⟩
    · refine ⟨_, rfl, a, _, rfl, SqT.en hs en1, fun R nR => ⟨_, rfl, _, rfl, ?_⟩⟩
      have eR : EN K H1 (upd H1 R (.tup (l.map fun x : Addr × CK => V.ref x.1).reverse)) := EN.of (Ext.upd nR)
      have sR : SqT K (upd H1 R (.tup (l.map fun x : Addr × CK => V.ref x.1).reverse)) R (l.reverse.map fun x : Addr × CK => V.ref x.1) := by
        rw [List.map_reverse]
        exact SqT.of upd_same
      dsimp only [tNil]
      refine td_use (g := f) sR (fun x hx => (hc.en (en1.trans eR)) x (List.mem_reverse.mp hx)) ok.rev ((en1.trans eR).2 hT) (by omega) (by omega) fun T v1 v2 H2 en hT1 td => ?_
      rw [holds_rev ok] at td
      exact ⟨T, _, rfl, SqT.of hT1, rfl, _, _, rfl, _, _, rfl, rfl, eR.trans en, v1, v2, rfl, td⟩
    rintro σ2 H2 ⟨en2, vo, vt, rfl, td2⟩
    have E2 := en1.trans en2
    have td1' := td1.en en2
    rw [cst] at td1'
    rcases td2 with ⟨z2, d1, k1, rfl, rfl, hd1, ent1⟩ | ⟨z2, p2, rfl, rfl, wp2⟩
    · have lo := less_ok (z := z) ok h20 f0 zf
      refine ⟨_, rfl, rfl, false, rfl, iteF (nxt ?_)⟩
      have hc2 := hc.en E2
      have sa2 := SqT.en hs E2
      refine ⟨_, rfl, _, rfl, _, rfl, a, d1, l, z, k1, (tk (f : Rat) (holds z (byAge l))).1, rfl, sa2, hc2, ok, hd1, ent1, lo, fun L H3 cs e3 hL hcs => ?_⟩
      obtain ⟨q1, q2, q3⟩ := paired_zip hcs
      have hl' := left_holds ok h20 f0 zf q2
      have ok' := left_ok ok h20 f0 zf q2
      have E3 := E2.trans (EN.of e3)
      have sL3 : SqT K H3 L ((cs.zip (l.map fun x => lessK z (tk (f : Rat) (holds z (byAge l))).1 x.2)).map fun x : Addr × CK => V.ref x.1) := by
        rw [show ((cs.zip (l.map fun x => lessK z (tk (f : Rat) (holds z (byAge l))).1 x.2)).map fun x : Addr × CK => V.ref x.1) = ((cs.zip (l.map fun x => lessK z (tk (f : Rat) (holds z (byAge l))).1 x.2)).map (·.1)).map V.ref by rw [List.map_map]; rfl, q1]
        exact SqT.of hL
      have hd13 := e3 _ _ hd1
      refine ⟨fun σ' H' => EN K H3 H' ∧ ∃ v1 v2, σ' = [some (.ref a), some (.str z), some (.int f), some (.int s), some vb, some vl, some (.ref d1), some v2, some (.ref L), some v1, none, none] ∧ Told P w K H' (tk (s : Rat) (rem (f : Rat) (holds z (byAge l)))) v1 v2, ?_, ?_⟩
      · refine ⟨_, rfl, _, rfl, _, rfl, ?_⟩
        dsimp only [tNil]
        refine td_use (g := s) sL3 (fun x hx => q3 x hx) ok' (E3.2 hT) (by omega) (by omega) fun T v1 v2 H4 en hT1 td => ?_
        rw [hl'] at td
        exact ⟨T, _, rfl, SqT.of hT1, rfl, _, _, rfl, _, _, rfl, rfl, en, v1, v2, rfl, td⟩
      rintro σ4 H4 ⟨en4, v1, v2, rfl, td4⟩
      have E4 := E3.trans en4
      have sL4 := SqT.en sL3 en4
      have sa4 := SqT.en hs E4
      have hd14 := en4.dict hd13
      have ent4 := (ent1.kp (Kp.of e3)).kp (Kp.ofN en4.1)
      have hcs4 : Paired (CaskAt K H4) cs (l.map fun x => lessK z (tk (f : Rat) (holds z (byAge l))).1 x.2) := paired_mono (fun _ _ y => y.kp (Kp.ofN en4.1)) hcs
      have hc4 := hc.en E4
      have lcs : cs.length = l.length := by rw [Paired.length hcs, List.length_map]
      refine ⟨_, rfl, _, rfl, L, a, _, _, rfl, .inr ⟨sL4, sa4, ?_⟩⟩
      refine for_it (walk_zipT (n := l.length) (by rw [List.length_map, List.length_map, List.length_zip, List.length_map, lcs]; omega)) (fun i σ' H' => Ext H4 H' ∧ ∃ x y, σ' = [some (.ref a), some (.str z), some (.int f), some (.int s), some vb, some vl, some (.ref d1), some v2, some (.ref L), some v1, x, y])
        ⟨fun _ _ e => e, none, none, rfl⟩ (fun i σ' H' _ p => ⟨sL4.ext p.1, sa4.ext p.1⟩) (fun i x σ' H5 H6 hi p y => ?_) fun σ' H5 p => ?_
      · obtain ⟨e5, x0, y0, rfl⟩ := p
        obtain ⟨T, x1, y1, rfl, nT, rfl, hx, hy⟩ := y
        have e6 : Ext H4 (upd H5 T (.tup [x1, y1])) := e5.trans (Ext.upd nT)
        have hx' : (cs.map V.ref)[i]? = some x1 := by
          rw [show ((cs.zip (l.map fun x => lessK z (tk (f : Rat) (holds z (byAge l))).1 x.2)).map fun x : Addr × CK => V.ref x.1) = ((cs.zip (l.map fun x => lessK z (tk (f : Rat) (holds z (byAge l))).1 x.2)).map (·.1)).map V.ref by rw [List.map_map]; rfl, q1] at hx
          exact hx
        change (l.map fun x : Addr × CK => V.ref x.1)[i]? = some y1 at hy
        rw [List.getElem?_map] at hx' hy
        obtain ⟨c1, hc1, rfl⟩ := Option.map_eq_some_iff.mp hx'
        obtain ⟨c2, hc2', rfl⟩ := Option.map_eq_some_iff.mp hy
        have m2 := List.mem_of_getElem? hc2'
        obtain ⟨kk, hkk, ca1⟩ := paired_get hcs4 hc1
        obtain rfl : lessK z (tk (f : Rat) (holds z (byAge l))).1 c2.2 = kk := by
          rw [List.getElem?_map, hc2'] at hkk
          exact Option.some.inj hkk
        obtain ⟨k'ok, k'wof, k'len⟩ := lessK_ok (ok.ok c2 m2) (lo c2 m2)
        have ck2 := ok.ok c2 m2
        have kfig := (lessK_fig z (tk (f : Rat) (holds z (byAge l))).1 c2.2).1
        have ca1 := ca1.kp (Kp.of e6)
        have ca2 := (hc4 c2 m2).kp (Kp.of e6)
        have hd16 := e6 _ _ hd14
        have ent6 := ent4.kp (Kp.of e6)
        have lo2 := lo c2 m2
        have w0 := wof_nn ck2.parts z
        have wz := hz20 c2 m2
        have w10 := wof_nn k'ok.parts z
        have w1z := wof_sz k'ok.parts z
        generalize lessK z (tk (f : Rat) (holds z (byAge l))).1 c2.2 = k' at *
        generalize (tk (f : Rat) (holds z (byAge l))).1 = es at *
        obtain ⟨dc1, t1, hcc1, _⟩ := id ca1
        obtain ⟨dc2, t2, hcc2, _⟩ := id ca2
        refine ⟨T, _, rfl, SqT.of upd_same, rfl, _, _, rfl, _, _, rfl, rfl, ?_⟩
        refine ⟨_, rfl, c1, dc1, _, rfl, hcc1, rfl, _, rfl, c1, k', z, rfl, ca1, k'ok.parts, fun pt H7 e7 npt wt => ?_⟩
        obtain ⟨dt, wt'⟩ := id wt
        refine ⟨pt, dt, _, rfl, wt', rfl, ?_⟩
        have hd17 := e7 _ _ hd16
        have hcc17 := e7 _ _ hcc1
        refine ⟨_, rfl, d1, rfl, ⟨k1, .inl hd17⟩, _, rfl, c1, _, dc1, _, _, rfl, hcc17, Z.cl_Cask, Z.n_Cask_mark, rfl, ?_⟩
        refine ⟨0, rfl, by decide, Nat.pow_pos (by decide), fun p0 H8 e8 np0 wp0 => ?_⟩
        have hd18 := e8 _ _ hd17
        have ent8 := ent6.kp (Kp.of (e7.trans e8))
        -- what was taken, or nought
        have got : ∃ (o : Option V) (wp : Addr) (r : Rat), valV k1 (some (mk k'.fig)) = o ∧ o.getD (.ref p0) = .ref wp ∧ WAt K H8 wp r ∧ r = (es.lookup (mk c2.2.fig)).getD 0 ∧ 0 ≤ r ∧ Sz 300 r ∧ (o = none ∨ es.lookup (mk c2.2.fig) = some r) := by
          rw [kfig]
          rcases ent_val (m := mk c2.2.fig) ent8 with ⟨y1, y2⟩ | ⟨r, wp, y1, y2, y3⟩
          · exact ⟨none, p0, 0, y2, rfl, (show WAt K H8 p0 ((0 : Int) : Rat) from wp0), by rw [y1]; rfl, Rat.le_refl, Sz.zero.mono (by decide), .inl rfl⟩
          · obtain ⟨r0, _, rs, _⟩ := lo2 r y1
            exact ⟨some (.ref wp), wp, r, y2, rfl, y3, by rw [y1]; rfl, Rat.le_of_lt r0, rs, .inr y1⟩
        obtain ⟨o, wp, r, g1, g2, wr, er, r0, rz, go⟩ := got
        refine ⟨o, ⟨k1, some (mk k'.fig), .inl hd18, rfl, g1⟩, ?_⟩
        rw [g2]
        refine ⟨pt, wp, wof k'.parts z, r, 300, 300, rfl, wt.ext e8, wr, w10, r0, w1z, rz, by decide, by decide, by decide, fun pn H9 e9 npn wpn => ?_⟩
        have e69 := (e7.trans e8).trans e9
        refine ⟨_, rfl, c2.1, dc2, _, rfl, e69 _ _ hcc2, rfl, _, rfl, c2.1, c2.2, z, rfl, ca2.kp (Kp.of e69), ck2.parts, fun pw H10 e10 npw wpw => ?_⟩
        have sum : wof k'.parts z + r = wof c2.2.parts z := by
          rw [k'wof, er]
          grind
        rw [sum] at wpn
        have wpn' := wpn.ext e10
        obtain ⟨dn, hn⟩ := id wpn'
        obtain ⟨dw, hw⟩ := id wpw
        refine ⟨pn, pw, dn, dw, _, _, rfl, rfl, hn, hw, ⟨_, wpn', wpw⟩, fun H11 e11 => ⟨false, rfl, iteF (nxt ?_)⟩⟩
        have e6b := (e69.trans e10).trans e11
        have hd11 := e6b _ _ hd16
        have hcc11 := e6b _ _ hcc1
        have hcc21 := e6b _ _ hcc2
        have ca11 := ca1.kp (Kp.of e6b)
        have ca21 := ca2.kp (Kp.of e6b)
        have few1 := k'ok.parts.few
        have few2 := ck2.parts.few
        have e63 : (2 : Int) ^ 63 = 9223372036854775808 := by decide
        refine ⟨_, rfl, c1, _, dc1, _, _, rfl, hcc11, Z.cl_Cask, Z.n_Cask_mark, rfl, _, rfl, d1, o, rfl, ⟨k1, some (mk k'.fig), .inl hd11, rfl, g1⟩, ?_⟩
        rcases go with rfl | go
        · refine ⟨_, rfl, iteF (nxt ⟨e6.trans e6b, _, _, rfl⟩)⟩
        · have kl := k'len r go
          obtain ⟨v, rfl⟩ : ∃ v, o = some v := by
            cases o with
            | some v => exact ⟨v, rfl⟩
            | none =>
              exfalso
              rw [kfig] at g1
              rcases ent_val (m := mk c2.2.fig) ent8 with ⟨y1, y2⟩ | ⟨r, wp, y1, y2, y3⟩
              · rw [y1] at go
                cases go
              · rw [y2] at g1
                cases g1
          refine ⟨_, rfl, iteT ?_⟩
          refine ⟨_, rfl, c1, dc1, _, rfl, hcc11, c1, k', rfl, ca11, _, rfl, ⟨by omega, by omega⟩, ?_⟩
          refine ⟨_, rfl, c2.1, dc2, _, rfl, hcc21, c2.1, c2.2, rfl, ca21, _, rfl, ⟨by omega, by omega⟩, ?_⟩
          refine ⟨_, rfl, c1, dc1, _, rfl, hcc11, rfl, _, rfl, c1, k', z, rfl, ca11, k'ok.parts, fun pz H12 e12 npz wz' => ?_⟩
          obtain ⟨dz, wz''⟩ := id wz'
          refine ⟨pz, dz, _, rfl, wz'', rfl, pz, _, rfl, wz', .inr ⟨_, rfl, ?_⟩⟩
          refine ⟨_, _, rfl, rfl, rfl, _, rfl, ?_⟩
          have ew : wof k'.parts z = wof c2.2.parts z - r := by
            rw [k'wof, er]
          rw [decide_eq_true (show V.int (k'.parts.length : Int) = V.int ((c2.2.parts.length : Int) - if decide (wof k'.parts z = 0) = true then 1 else 0) by
            rw [ew, kl]
            congr 2
            simp only [decide_eq_true_eq])]
          exact iteF (nxt ⟨e6.trans (e6b.trans e12), _, _, rfl⟩)
      · obtain ⟨e5, x0, y0, rfl⟩ := p
        have E5 := E4.trans (EN.of e5)
        have td5 := td4.en (EN.of e5)
        have td15 := (td1'.en ((EN.of e3).trans en4)).en (EN.of e5)
        have two := tk_two (holds z (byAge l)) f s f0 s0 xnn
        rw [z2, Rat.zero_add] at two
        rcases td5 with ⟨z5, d2, k2, rfl, rfl, hd2, ent2⟩ | ⟨z5, p5, rfl, rfl, wp5⟩
        · refine ⟨_, rfl, rfl, false, rfl, iteF (nxt ?_)⟩
          rcases td15 with ⟨z1, db, kb, rfl, rfl, hdb, entb⟩ | ⟨z1, _⟩
          rotate_left
          · exact absurd (two.trans z5) z1
          have hd15 := e5 _ _ hd14
          have ent5 := ent4.kp (Kp.of e5)
          obtain ⟨l1, nd1⟩ := tk_len (z := z) (g := (f : Rat)) ok
          obtain ⟨l2, nd2⟩ := tk_len (z := z) (g := (s : Rat)) ok'
          obtain ⟨l3, nd3⟩ := tk_len (z := z) (g := (f : Rat) + (s : Rat)) ok
          have b1 := tk_ok (z := z) ok hz20 f0 zf
          have b2 := tk_ok (z := z) (n := 300) ok' (fun x hx => wof_sz (ok'.ok x hx).parts z) s0 zs
          have b3 := tk_ok (z := z) ok hz20 (show (0 : Rat) ≤ (f : Rat) + (s : Rat) by grind) (by rw [← cst]; exact szi _ (by omega) (by omega))
          rw [hl'] at l2 nd2 b2
          have M1 := MapD.of ent5 (omk_nd nd1)
          have M2 := MapD.of ent2 (omk_nd nd2)
          have Mb := MapD.of entb (omk_nd nd3)
          have lk1 := Paired.length ent5
          have lk2 := Paired.length ent2
          rw [List.length_map] at lk1 lk2
          refine ⟨_, rfl, _, rfl, _, rfl, d1, d2, k1, k2, _, _, 272, 3632, rfl, hd15, hd2, M1, M2, omk_bd nd1 fun e he => ⟨(b1 e he).1, (b1 e he).2.1⟩, omk_bd nd2 fun e he => ⟨(b2 e he).1, (b2 e he).2.1⟩, by decide, by decide, by decide, by omega, by omega, fun da H6 ka e6 nda hda Ma => ?_⟩
          have nba : db ≠ da := ne_of_none hdb nda
          have Mb6 : MapD K H6 kb (addM (fun k => ((tk (f : Rat) (holds z (byAge l))).1.map omk).lookup k) fun k => ((tk (s : Rat) (rem (f : Rat) (holds z (byAge l)))).1.map omk).lookup k) := (Mb.kp (Kp.of e6)).congr fun k => by
            simp only [addM]
            cases k with
            | none => rw [look_omk0, look_omk0, look_omk0]
            | some m =>
              rw [look_omk, look_omk, look_omk, tk_map (holds z (byAge l)) f s f0 s0 xnn xnd m] <;> cases (tk (s : Rat) (rem (f : Rat) (holds z (byAge l)))).1.lookup m <;> rfl
          refine eq_maps nba (e6 _ _ hdb) hda Mb6 Ma fun H7 e7 => ⟨_, rfl, iteT ?_⟩
          have e57 := e6.trans e7
          refine ⟨_, rfl, _, rfl, _, rfl, _, rfl, _, _, rfl, rfl, ?_⟩
          refine ⟨_, rfl, db, kb, rfl, e57 _ _ hdb, fun H8 pl ts e8 hpl hts => ?_⟩
          refine ⟨pl, _, rfl, .inl ⟨SqL.of hpl, fun T nT => ?_⟩⟩
          have e59 : Ext H5 (upd H8 T (.tup (ts.map V.ref))) := (e57.trans e8).trans (Ext.upd nT)
          have prt := ents_parts hts (entb.kp (Kp.of (e57.trans e8)))
          have sm := tk_sum (holds z (byAge l)) ((f : Rat) + (s : Rat))
          rw [z1, ← cst] at sm
          exact ⟨a, T, ts, l, z, f + s, (tk ((f : Rat) + (s : Rat)) (holds z (byAge l))).1, rfl, (sa4.ext e5).ext e59, (hc4.kp (Kp.of e5)).kp (Kp.of e59), ok.ok, ok.few, upd_same, paired_mono (fun _ _ y => y.kp (Kp.new nT)) prt, l3,
            fun e he => ⟨(b3 e he).1, (b3 e he).2.1.mono (by decide), (b3 e he).2.2.1, (b3 e he).2.2.2⟩, nd3, by rw [← cst]; rw [← sm]; grind, by omega, by omega, fun H9 e9 => q H9 ((E5.trans (EN.of e59)).trans (EN.of e9))⟩
        · refine ⟨_, rfl, rfl, true, rfl, iteT ?_⟩
          rcases td15 with ⟨z1, _⟩ | ⟨_, pb, rfl, rfl, wpb⟩
          · exact absurd (two.symm.trans z1) z5
          refine ⟨_, rfl, rfl, _, rfl, iteT ?_⟩
          rw [two] at wpb
          exact ⟨_, rfl, _, rfl, dw_of wpb wp5, fun H6 e6 => q H6 (E5.trans (EN.of e6))⟩
    · have short := tk_short (holds z (byAge l)) f s f0 s0 xnn z2
      obtain ⟨l0, lz⟩ := tk_left (n := 20) f0 zf xs0
      have lz' : Sz 300 (tk (f : Rat) (holds z (byAge l))).2 := lz.mono (by have := Nat.mul_le_mul_right 21 xlen; omega)
      rcases td1' with ⟨z1, _⟩ | ⟨_, pb, rfl, rfl, wpb⟩
      · exfalso
        rw [short] at z1
        grind
      obtain ⟨dp, wp2'⟩ := id wp2
      refine ⟨_, rfl, rfl, true, rfl, iteT ?_⟩
      refine ⟨_, rfl, rfl, _, rfl, iteT ?_⟩
      refine ⟨_, rfl, _, rfl, p2, dp, _, rfl, wp2', rfl, _, rfl, s, rfl, by omega, pow_lt (show s.natAbs < 2 ^ 20 by omega) (by decide), fun ps H3 e3 nps wps => ?_⟩
      refine ⟨p2, ps, _, _, 300, 20, rfl, wp2.ext e3, wps, l0, s0, lz', zs, by decide, by decide, by decide, fun pn H4 e4 npn wpn => ?_⟩
      rw [← short] at wpn
      exact ⟨dw_of (wpb.ext (e3.trans e4)) wpn, fun H5 e5 => q H5 (E2.trans (EN.of ((e3.trans e4).trans e5)))⟩
end
end K34
set_option Elab.async false
set_option linter.all false
set_option maxRecDepth 100000
set_option maxHeartbeats 4000000
/-! K34V: law. -/
namespace K34
open PySem PySem.Spec PyProof.Rows L2
/-! ### list + list, tracked or not -/
def rCatL (K : PySem.W.Frag) : R2 := fun x y H Q => ∃ l b xs zs, x = .ref l ∧ y = .ref b ∧ SqL K H l xs ∧ SqL K H b zs ∧ xs.length + zs.length ≤ sizeLine ∧ ∀ p, H p = none → Q (.ref p) (upd H p (.lst (xs ++ zs)))
theorem op_catL {X : Cx} : OpR X (binaryOp .Add) (rCatL X.K) := by
  intro pins s σ H x y v u Q I rx ry h
  obtain ⟨l, b, xs, zs, rfl, rfl, hH, hB, hz, q⟩ := h
  cases rx
  cases ry
  obtain ⟨its, r, ⟨⟨cls, dd, data, sl⟩, n, ho, hc, hdd, hd⟩, _⟩ := I.list hH
  obtain ⟨its2, r2, ⟨⟨cls2, dd2, data2, sl2⟩, n2, ho2, hc2, hdd2, hd2⟩, _⟩ := I.list hB
  simp only at hc hd hc2 hd2
  subst hc hd hc2 hd2
  have e1 := r.length
  have e2 := r2.length
  have e : its.toArray ++ its2.toArray = (its ++ its2).toArray := by simp
  refine concat_meets ⟨_, ho, rfl⟩ ⟨_, ho2, rfl⟩ noFill_list_add seq_list_add PySem.F.slot_list_add PySem.F.entry_list_add (PySem.F.args_list_add_2 _ _) (list_addW l b its.toArray its2.toArray n n2 dd dd2 sl sl2 (by rw [List.size_toArray, List.size_toArray]; omega)) ⟨ho, ho2, ?_⟩
  rw [e]
  exact ⟨.ref _, _, I.lnew (t' := s.toks) (r.append r2) (by rw [List.length_append]; omega), rfl, q _ I.fresh⟩
theorem cut_three (xs : List V) : cutV xs none (some 3) = xs.take 3 := by
  unfold cutV
  rw [HT.sIx_none, List.drop_zero, Nat.sub_zero]
  have e : HT.sIx xs.length xs.length (some 3) = min 3 xs.length := by
    rw [show (some (3 : Int)) = some ((3 : Nat) : Int) from rfl, HT.sIx_nat]
  rw [e]
  rcases Nat.le_total 3 xs.length with h | h
  · rw [Nat.min_eq_left h]
  · rw [Nat.min_eq_right h, List.take_length, List.take_of_length_le h]
/-! ### all but a deck, and the tables -/
def EX (d : Addr) (H H' : Hp) : Prop := ∀ b o, b ≠ d → H b = some o → (∀ ps, o ≠ .tbl ps) → H' b = some o
theorem EX.rfl' {d : Addr} {H : Hp} : EX d H H := fun _ _ _ h _ => h
theorem EX.trans {d : Addr} {H H1 H2 : Hp} (a : EX d H H1) (b : EX d H1 H2) : EX d H H2 := fun c o n h t => b c o n (a c o n h t) t
theorem EX.eb {d : Addr} {H H' : Hp} (e : EB d H H') : EX d H H' := fun b o n h _ => e b o n h
theorem EX.en {K : PySem.W.Frag} {d : Addr} {H H' : Hp} (e : EN K H H') : EX d H H' := fun b o _ h t => e.1 b o h t
theorem EX.of {d : Addr} {H H' : Hp} (e : Ext H H') : EX d H H' := fun b o _ h _ => e b o h
theorem EX.kp {d : Addr} {N : Nat} {H H' : Hp} (e : EX d H H') (h : DeckAt H d N) : Kp H H' := fun b o hb n t => e b o (h.ne hb n) hb t
theorem DeckAt.en {K : PySem.W.Frag} {H H' : Hp} {d : Addr} {N : Nat} (h : DeckAt H d N) (e : EN K H H') : DeckAt H' d N := let ⟨a, n, c, h1, h2⟩ := h; ⟨a, n, c, e.1 _ _ h1 (fun _ z => by cases z), h2⟩
theorem SqT.ex {K : PySem.W.Frag} {H H' : Hp} {d a : Addr} {N : Nat} {xs : List V} (h : SqT K H a xs) (e : EX d H H') (dk : DeckAt H d N) : SqT K H' a xs := by
  rcases h with (h | ⟨o, h⟩) | h
  · exact .inl (.inl (e _ _ (dk.ne h fun _ z => by cases z) h fun _ z => by cases z))
  · exact .inl (.inr ⟨o, e _ _ (dk.ne h fun _ z => by cases z) h fun _ z => by cases z⟩)
  · exact .inr h
section
variable {P : Program} {w : World} {K : PySem.W.Frag} {mg : Str → Option Value} {base : Heap}
theorem RKAt.ext {H H' : Hp} {c : Addr} {k : RK} (h : RKAt H c k) (e : Ext H H') : RKAt H' c k := let ⟨l, ps, h1, h2, h3⟩ := h; ⟨l, ps, e _ _ h1, e _ _ h2, paired_mono (fun _ _ z => z.kp (Kp.of e)) h3⟩
theorem casks_of {H : Hp} {ps : List Addr} {ks : List RK} (h : Paired (CaskAt K H) ps (ks.map ckOf)) (lk : ks.length ≤ 12) (nd : (ks.map (·.fig)).Nodup) (ok : ∀ k ∈ ks, RkOk k) :
    ∃ l : List (Addr × CK), (l.map fun x : Addr × CK => V.ref x.1) = ps.map V.ref ∧ CasksAt K H l ∧ CasksOk l ∧ ∀ x ∈ l, ∀ p ∈ x.2.parts, Sz 20 p.2 := by
  obtain ⟨a, b, c⟩ := paired_zip h
  have each : ∀ x ∈ ps.zip (ks.map ckOf), ∃ k ∈ ks, ckOf k = x.2 := fun x hx => by
    have : x.2 ∈ (ps.zip (ks.map ckOf)).map (·.2) := List.mem_map.mpr ⟨x, hx, rfl⟩
    rw [b] at this
    exact List.mem_map.mp this
  refine ⟨ps.zip (ks.map ckOf), ?_, fun x hx => c x hx, ⟨fun x hx => ?_, ?_, ?_⟩, fun x hx => ?_⟩
  · rw [show ((ps.zip (ks.map ckOf)).map fun x : Addr × CK => V.ref x.1) = ((ps.zip (ks.map ckOf)).map (·.1)).map V.ref by rw [List.map_map]; rfl, a]
  · obtain ⟨k, hk, e⟩ := each x hx
    rw [← e]
    exact (ckOf_ok (ok k hk)).1
  · have := congrArg List.length b
    rw [List.length_map, List.length_map] at this
    omega
  · rw [show ((ps.zip (ks.map ckOf)).map fun x : Addr × CK => x.2.fig) = ((ps.zip (ks.map ckOf)).map (·.2)).map (·.fig) by rw [List.map_map]; rfl, b, List.map_map]
    exact nd
  · obtain ⟨k, hk, e⟩ := each x hx
    rw [← e]
    exact (ckOf_ok (ok k hk)).2
theorem notes_of {H : Hp} {ps : List Addr} {ns : List NK} (h : Paired (NoteAt K H) ps ns) (lk : ns.length ≤ 8) (nd : (ns.map (·.name)).Nodup) (ok : ∀ n ∈ ns, NkOk n) :
    ∃ l : List (Addr × NK), (l.map fun x : Addr × NK => V.ref x.1) = ps.map V.ref ∧ NotesAt K H l ∧ (∀ x ∈ l, NkOk x.2) ∧ l.length ≤ 8 ∧ (l.map fun x => x.2.name).Nodup := by
  obtain ⟨a, b, c⟩ := paired_zip h
  refine ⟨ps.zip ns, ?_, fun x hx => c x hx, fun x hx => ?_, ?_, ?_⟩
  · rw [show ((ps.zip ns).map fun x : Addr × NK => V.ref x.1) = ((ps.zip ns).map (·.1)).map V.ref by rw [List.map_map]; rfl, a]
  · have : x.2 ∈ (ps.zip ns).map (·.2) := List.mem_map.mpr ⟨x, hx, rfl⟩
    rw [b] at this
    exact ok _ this
  · have := congrArg List.length b
    rw [List.length_map] at this
    omega
  · rw [show ((ps.zip ns).map fun x : Addr × NK => x.2.name) = ((ps.zip ns).map (·.2)).map (·.name) by rw [List.map_map]; rfl, b]
    exact nd
def spLaw (K : PySem.W.Frag) : Sp := fun vs H Q _ => ∃ (a : Addr) (ns : List Int), vs = [.ref a] ∧ SqL K H a (ns.map V.int) ∧ ns.length ≤ 1000 ∧ LamX.Tabs (TT K) H ∧ ∀ H', Q (.bl true) H'
abbrev nsLaw : List Str := ["_law_script", "_law_cell", "_law_deck_here", "_law_names_here", "_law_casks_here", "_law_ware", "_law_notes_here", "_law_whole", "_law_turn", "_law_first", "_law_second", "_law_cask", "_law_note_here"]
theorem scLaw : FnScope nsLaw ["_law_script"] (defScope (top 67)) := ⟨rfl, rfl, rfl, by decide +kernel, rfl, by decide +kernel, by decide +kernel⟩
theorem ok_law (Z : Wd K mg) (TB : Tb K mg base) {fd : FuncData} (F : FunD K "law" "law" (defArgs (top 67)) (defBody (top 67)) (defScope (top 67)) [] [] (He.fAd K ("law", none)) fd) : FnOk P w K mg base C8.CX0 10 (He.ga K "law") fd ["_law_script"] (spLaw K) := by
  refine F.ok (k := 9) scLaw (fun vs H Q E h => ?_) (fun cdv A outer s H vs Q E hr h => ?_)
  · obtain ⟨a, ns, rfl, _⟩ := h
    rfl
  · obtain ⟨a, ns, rfl, hs, hn, hT, q⟩ := h
    have cK := ok_deck (P := P) (w := w) (base := base) Z
    have cD := ok_draw (P := P) (w := w) (base := base) Z
    have cN := ok_names (P := P) (w := w) (base := base) Z
    have cC := ok_cs (P := P) (w := w) (base := base) Z
    have cM := ok_made (P := P) (w := w) (base := base) Z
    have cO := ok_ns (P := P) (w := w) (base := base) Z
    have cE := ok_nt (P := P) (w := w) (base := base) Z
    have cT := ok_total (P := P) (w := w) (base := base) Z
    have mW := met_wof (P := P) (w := w) (base := base) Z
    have mU := met_up (P := P) (w := w) (base := base) Z
    have cW := ok_tw (P := P) (w := w) (base := base) Z TB
    have cS := ok_sr (P := P) (w := w) (base := base) Z
    refine ⟨_, PSs.nox (pss_cons (ps_for PassesOwn.never rfl (pi_list (pe_slice sl_list (pe_op op_catL (pv 0) (pe_lst (pa_cons pe_int pa_nil))) po_none (po_some pe_int))) (pg_name (i := 1) scLaw.nd rfl (Or.inl rfl))
      (pss_cons (ps_set (i := 2) scLaw.nd rfl (.inl rfl) (C8.pe_c cK hr (by decide) (by rfl) (pa_cons (pv 1) pa_nil)))
      (pss_cons (ps_set (i := 3) scLaw.nd rfl (.inl rfl) (C8.pe_c cN hr (by decide) (by rfl) (pa_cons (pv 2) (pa_cons (pe_op op_add pe_int (C8.pe_c cD hr (by decide) (by rfl) (pa_cons (pv 2) (pa_cons pe_int pa_nil)))) pa_nil))))
      (pss_cons (ps_set (i := 4) scLaw.nd rfl (.inl rfl) (pe_callTy call_tuple_of (by rfl) Z.f_tuple (by decide +kernel) (pa_cons (pe_lc (own := [("_law_cask", 11)]) (g := gName 11) (tt := tYes) rfl scLaw.nd (pi_list (C8.pe_c cC hr (by decide) (by rfl) (pa_cons (pv 2) (pa_cons (pe_slice sl_list (pv 3) (po_some pe_int) po_none) pa_nil)))) (blkOk_by (own := [("_law_cask", 11)]) (N := nsLaw) (sc := defScope (top 67)) (by decide +kernel))
        (fun _ _ _ _ _ => pg_name (i := 11) scLaw.nd rfl (Or.inl rfl)) (fun _ _ _ _ _ => pts_nil) (fun _ _ _ _ _ => C8.pe_c cM hr (by decide) (by rfl) (pa_cons (pv 11) pa_nil))) pa_nil)))
      (pss_one (ps_for PassesOwn.never rfl (pi_list (pv 3)) (pg_name (i := 5) scLaw.nd rfl (Or.inr rfl))
        (pss_cons (ps_set (i := 6) scLaw.nd rfl (.inl rfl) (pe_callTy call_tuple_of (by rfl) Z.f_tuple (by decide +kernel) (pa_cons (pe_lc (own := [("_law_note_here", 12)]) (g := gName 12) (tt := tYes) rfl scLaw.nd (pi_list (C8.pe_c cO hr (by decide) (by rfl) (pa_cons (pv 2) (pa_cons (pv 5) (pa_cons pe_int pa_nil))))) (blkOk_by (own := [("_law_note_here", 12)]) (N := nsLaw) (sc := defScope (top 67)) (by decide +kernel))
          (fun _ _ _ _ _ => pg_name (i := 12) scLaw.nd rfl (Or.inl rfl)) (fun _ _ _ _ _ => pts_nil) (fun _ _ _ _ _ => C8.pe_c cE hr (by decide) (by rfl) (pa_cons (pv 12) pa_nil))) pa_nil)))
        (pss_cons (ps_set (i := 7) scLaw.nd rfl (.inl rfl) (C8.pe_mt0 mU hr (by decide) (C8.pe_c cT hr (by decide) (by rfl) (pa_cons (pe_callTy call_tuple_of (by rfl) Z.f_tuple (by decide +kernel) (pa_cons (pe_lc (own := [("_law_cask", 11)]) (g := gName 11) (tt := tYes) rfl scLaw.nd (pi_tup (pv 4)) (blkOk_by (own := [("_law_cask", 11)]) (N := nsLaw) (sc := defScope (top 67)) (by decide +kernel))
          (fun _ _ _ _ _ => pg_name (i := 11) scLaw.nd rfl (Or.inl rfl)) (fun _ _ _ _ _ => pts_nil) (fun _ _ _ _ _ => C8.pe_mt mW hr (by decide) (pv 11) (pa_cons (pv 5) pa_nil))) pa_nil)) pa_nil))))
        (pss_cons (ps_for PassesOwn.never rfl (pi_range1 (by rfl) Z.f_range (pa_cons pe_int pa_nil)) (pg_name (i := 8) scLaw.nd rfl (Or.inl rfl))
          (pss_cons (ps_set (i := 9) scLaw.nd rfl (.inl rfl) (pe_op op_add pe_int (C8.pe_c cD hr (by decide) (by rfl) (pa_cons (pv 2) (pa_cons (pe_callB (call_min2 rfl) (by rfl) Z.f_min (by decide +kernel) (pa_cons (pe_op op_pow pe_int pe_int) (pa_cons (pe_op op_add (pv 7) pe_int) pa_nil))) pa_nil)))))
          (pss_cons (ps_set (i := 10) scLaw.nd rfl (.inl rfl) (pe_op op_add pe_int (C8.pe_c cD hr (by decide) (by rfl) (pa_cons (pv 2) (pa_cons (pe_callB (call_min2 rfl) (by rfl) Z.f_min (by decide +kernel) (pa_cons (pe_op op_pow pe_int pe_int) (pa_cons (pe_op op_add (pv 7) pe_int) pa_nil))) pa_nil)))))
          (pss_one (ps_if (pt_not (pt_val (C8.pe_c cW hr (by decide) (by rfl) (pa_cons (pv 4) (pa_cons (pv 5) (pa_cons (pv 9) (pa_cons (pv 10) pa_nil))))))) (pss_one (ps_ret pe_bl)) pss_nil)))))
        (pss_one (ps_if (pt_not (pt_val (C8.pe_c cS hr (by decide) (by rfl) (pa_cons (pv 2) (pa_cons (pv 4) (pa_cons (pv 5) (pa_cons (pv 6) pa_nil))))))) (pss_one (ps_ret pe_bl)) pss_nil)))))))))))
      (pss_one (ps_ret pe_bl))), ?_⟩
    have e38 : (2 : Nat) ^ 38 = 274877906944 := by decide
    have e39 : (2 : Nat) ^ 39 = 549755813888 := by decide
    have e40 : (2 : Nat) ^ 40 = 1099511627776 := by decide
    have e63 : (2 : Int) ^ 63 = 9223372036854775808 := by decide
    have e105 : (10 : Int) ^ (5 : Int).toNat = 100000 := by decide
    have hlen : (ns.map V.int).length + [V.int 0].length ≤ sizeLine := by
      rw [List.length_map, sizeLine_eq]
      show ns.length + 1 ≤ _
      omega
    refine ⟨_, rfl, (by show 1 ≤ sizeLine; decide), fun Z0 nZ0 => ⟨a, Z0, _, _, rfl, rfl, hs.ext (Ext.upd nZ0), SqL.of upd_same, hlen, fun p np => ?_⟩⟩
    refine ⟨3, rfl, p, _, rfl, SqL.of upd_same, fun L nL => ?_⟩
    rw [cut_three]
    refine ⟨L, rfl, ⟨_, SqL.of upd_same⟩, ?_⟩
    refine for_it (walk_list (xs := (ns.map V.int ++ [V.int 0]).take 3)) (fun i σ H' => (∃ x1 x2 x3 x4 x5 x6 x7 x8 x9 x10, σ = [some (.ref a), x1, x2, x3, x4, x5, x6, x7, x8, x9, x10, none, none]) ∧ LamX.Tabs (TT K) H' ∧ H' L = some (.lst ((ns.map V.int ++ [V.int 0]).take 3)))
      ⟨⟨_, _, _, _, _, _, _, _, _, _, rfl⟩, ((hT.ext (Ext.upd nZ0)).ext (Ext.upd np)).ext (Ext.upd nL), upd_same⟩ (fun i σ H' _ p => SqL.of p.2.2) (fun i x σ H1 H2 hi p y => ?_) fun σ H1 p => ?_
    · obtain ⟨⟨x1, x2, x3, x4, x5, x6, x7, x8, x9, x10, rfl⟩, hT1, hL1⟩ := p
      obtain ⟨rfl, hx⟩ := y
      obtain ⟨c, rfl⟩ : ∃ c : Int, x = .int c := by
        rcases List.mem_append.mp (List.mem_of_mem_take (List.mem_of_getElem? hx)) with y | y
        · obtain ⟨c, _, e⟩ := List.mem_map.mp y
          exact ⟨c, e.symm⟩
        · exact ⟨0, List.mem_singleton.mp y⟩
      refine ⟨_, rfl, c, rfl, fun d H3 e3 nd dk => ?_⟩
      have hL3 := e3 _ _ hL1
      have nLd : L ≠ d := ne_of_none hL1 nd
      refine ⟨_, rfl, _, rfl, d, 3, 0, rfl, by decide, by decide, dk, by decide, fun r H4 r0 r1 e4 dk4 => ⟨_, _, rfl, rfl, ?_⟩⟩
      obtain ⟨k, rfl⟩ := Int.eq_ofNat_of_zero_le r0
      refine ⟨d, 2 + k, 1, rfl, by omega, dk4, by decide, fun M H5 zs e5 dk5 nM hM lz ndz okz => ?_⟩
      have nMd : M ≠ d := Ne.symm (dk4.new nM)
      have hL5 := e5 _ _ nLd (e4 _ _ nLd hL3)
      have hT5 := e5.tabs dk4 (e4.tabs dk (hT1.ext e3))
      refine ⟨_, rfl, _, rfl, 1, rfl, M, _, rfl, SqL.of hM, fun W nW => ?_⟩
      rw [cut_rest, ← List.map_drop]
      have nWd := dk5.new nW
      refine ⟨d, W, zs.drop 1, 1 + 12, rfl, dk5.upd nWd, by omega, upd_same, Ne.symm nWd, by rw [List.length_drop]; omega, ndz.sublist (List.drop_sublist 1 zs), (fun z hz => okz z (List.mem_of_mem_drop hz)), fun Cp H6 cs ks e6 dk6 nCp hCp hcs lk ndk okk => ?_⟩
      have hL6 := e6 _ _ nLd ((upd_ne (ne_of_none hL5 nW)).trans hL5)
      have hM6 := e6 _ _ nMd ((upd_ne (ne_of_none hM nW)).trans hM)
      have hT6 := e6.tabs (dk5.upd nWd) (hT5.ext (Ext.upd nW))
      refine ⟨Cp, rfl, ⟨_, SqL.of hCp⟩, fun D nD => lc_it (walk_list (xs := cs.map V.ref)) (fun i H' => Ext H6 H' ∧ ∃ ps : List Addr, H' D = some (.lst (ps.map V.ref)) ∧ Paired (CaskAt K H') ps ((ks.take i).map ckOf)) ⟨Ext.upd nD, [], upd_same, .nil⟩ (fun i H' _ p => SqL.of (p.1 _ _ hCp)) (fun i x H7 H8 hi p y => ?_) fun H7 p => ?_⟩
      · obtain ⟨e, ps, hD, hps⟩ := p
        obtain ⟨rfl, hx⟩ := y
        rw [List.getElem?_map] at hx
        obtain ⟨u, hu, rfl⟩ := Option.map_eq_some_iff.mp hx
        obtain ⟨kk, hkk, rk⟩ := paired_get hcs hu
        refine ⟨rfl, _, rfl, u, kk, rfl, rk.ext e, okk kk (List.mem_of_getElem? hkk), fun p H9 e9 np cp => ?_⟩
        have hD9 := e9 _ _ hD
        refine ⟨_, hD9, ?_, Ext.put (e.trans e9) nD, ps ++ [p], ?_, ?_⟩
        · have l1 := Paired.length hps
          rw [List.length_map, List.length_take] at l1
          rw [List.length_map, sizeLine_eq]
          omega
        · rw [upd_same, List.map_append]
          rfl
        · rw [take_snoc hkk, List.map_append]
          exact paired_snoc (cp.kp (Kp.put hD9)) (paired_mono (fun _ _ y => (y.kp (Kp.of e9)).kp (Kp.put hD9)) hps)
      obtain ⟨e7, ps, hD, hps⟩ := p
      rw [List.length_map, Paired.length hcs, List.take_length] at hps
      refine ⟨D, _, rfl, .inl ⟨SqL.of hD, fun T nT => ?_⟩⟩
      obtain ⟨l, el, hcl, okl, h20⟩ := casks_of hps lk ndk okk
      rw [← el]
      have dk7 : DeckAt (upd H7 T (.tup (l.map fun x : Addr × CK => V.ref x.1))) d 2000 := ((dk6.ext e7).ext (Ext.upd nT)).mono (by omega)
      have hM7 : upd H7 T (.tup (l.map fun x : Addr × CK => V.ref x.1)) M = some (.lst (zs.map V.str)) := Ext.upd nT _ _ (e7 _ _ hM6)
      have hL7 : upd H7 T (.tup (l.map fun x : Addr × CK => V.ref x.1)) L = some (.lst ((ns.map V.int ++ [V.int 0]).take 3)) := Ext.upd nT _ _ (e7 _ _ hL6)
      have hT7 := (hT6.ext e7).ext (Ext.upd (o := .tup (l.map fun x : Addr × CK => V.ref x.1)) nT)
      have sT7 : SqT K (upd H7 T (.tup (l.map fun x : Addr × CK => V.ref x.1))) T (l.map fun x : Addr × CK => V.ref x.1) := SqT.of upd_same
      have hc7 : CasksAt K (upd H7 T (.tup (l.map fun x : Addr × CK => V.ref x.1))) l := hcl.kp (Kp.new nT)
      generalize upd H7 T (.tup (l.map fun x : Addr × CK => V.ref x.1)) = G at *
      refine ⟨_, rfl, M, rfl, ⟨_, SqL.of hM7⟩, ?_⟩
      refine for_it (walk_list (xs := zs.map V.str)) (fun i σ H' => (∃ x5 x6 x7 x8 x9 x10, σ = [some (.ref a), some (.int c), some (.ref d), some (.ref M), some (.ref T), x5, x6, x7, x8, x9, x10, none, none]) ∧ EX d G H' ∧ DeckAt H' d (2000 + 200 * i) ∧ LamX.Tabs (TT K) H')
        ⟨⟨_, _, _, _, _, _, rfl⟩, EX.rfl', dk7, hT7⟩ (fun i σ H' _ p => SqL.of (p.2.1 _ _ nMd hM7 fun _ z => by cases z)) (fun i x σ H8 H9 hi p y => ?_) fun σ H8 p => ?_
      · obtain ⟨⟨x5, x6, x7, x8, x9, x10, rfl⟩, eG, dk8, hT8⟩ := p
        obtain ⟨rfl, hx⟩ := y
        rw [List.getElem?_map] at hx
        obtain ⟨z, hz, rfl⟩ := Option.map_eq_some_iff.mp hx
        have hi4 : i < 4 := by
          have := (List.getElem?_eq_some_iff.mp hz).1
          omega
        have oz := okz z (List.mem_of_getElem? hz)
        refine ⟨_, rfl, _, rfl, d, z, 2000 + 200 * i, rfl, oz, dk8, by omega, fun Np H10 us ln0 e10 dk10 nNp hNp hns lns ndn okn => ?_⟩
        have eG10 := eG.trans (EX.eb e10)
        have hT10 := e10.tabs dk8 hT8
        refine ⟨Np, rfl, ⟨_, SqL.of hNp⟩, fun D2 nD2 => lc_it (walk_list (xs := us.map V.ref)) (fun i H' => Ext H10 H' ∧ ∃ ps : List Addr, H' D2 = some (.lst (ps.map V.ref)) ∧ Paired (NoteAt K H') ps (ln0.take i)) ⟨Ext.upd nD2, [], upd_same, .nil⟩ (fun i H' _ p => SqL.of (p.1 _ _ hNp)) (fun i x H11 H12 hi p y => ?_) fun H11 p => ?_⟩
        · obtain ⟨e, ps, hD, hps⟩ := p
          obtain ⟨rfl, hx⟩ := y
          rw [List.getElem?_map] at hx
          obtain ⟨u, hu, rfl⟩ := Option.map_eq_some_iff.mp hx
          obtain ⟨n, hn', nt⟩ := paired_get hns hu
          refine ⟨rfl, _, rfl, u, n, rfl, NTAt.kp nt (Kp.of e), okn n (List.mem_of_getElem? hn'), fun p H13 e13 np cp => ?_⟩
          have hD13 := e13 _ _ hD
          refine ⟨_, hD13, ?_, Ext.put (e.trans e13) nD2, ps ++ [p], ?_, ?_⟩
          · have l1 := Paired.length hps
            rw [List.length_take] at l1
            rw [List.length_map, sizeLine_eq]
            omega
          · rw [upd_same, List.map_append]
            rfl
          · rw [take_snoc hn']
            exact paired_snoc (cp.kp (Kp.put hD13)) (paired_mono (fun _ _ y => (y.kp (Kp.of e13)).kp (Kp.put hD13)) hps)
        obtain ⟨e11, qs, hD2, hqs⟩ := p
        rw [List.length_map, Paired.length hns, List.take_length] at hqs
        refine ⟨D2, _, rfl, .inl ⟨SqL.of hD2, fun TN nTN => ?_⟩⟩
        obtain ⟨ln, eln, hln, okln, few, ndl⟩ := notes_of hqs lns ndn okn
        rw [← eln]
        have e1012 : Ext H10 (upd H11 TN (.tup (ln.map fun x : Addr × NK => V.ref x.1))) := e11.trans (Ext.upd nTN)
        have dk12 := dk10.ext e1012
        have eG12 := eG10.trans (EX.of e1012)
        have hT12 := hT10.ext e1012
        have sN12 : SqT K (upd H11 TN (.tup (ln.map fun x : Addr × NK => V.ref x.1))) TN (ln.map fun x : Addr × NK => V.ref x.1) := SqT.of upd_same
        have hn12 : NotesAt K (upd H11 TN (.tup (ln.map fun x : Addr × NK => V.ref x.1))) ln := hln.kp (Kp.new nTN)
        generalize upd H11 TN (.tup (ln.map fun x : Addr × NK => V.ref x.1)) = G2 at *
        have sT12 := SqT.ex sT7 eG12 dk7
        have hc12 := hc7.kp (eG12.kp dk7)
        refine ⟨_, rfl, T, rfl, ⟨_, sT12⟩, fun D3 nD3 => lc_it (walk_tup (xs := l.map fun x : Addr × CK => V.ref x.1)) (fun i H1 => Ext G2 H1 ∧ ∃ ws : List Addr, H1 D3 = some (.lst (ws.map V.ref)) ∧ WsAt K H1 ws ((l.take i).map fun x => wof x.2.parts z)) ⟨Ext.upd nD3, [], upd_same, .nil⟩ (fun i H1 _ p => sT12.ext p.1) (fun i x H13 H14 hi p y => ?_) fun H13 p => ?_⟩
        · obtain ⟨e, ws, hD, hw⟩ := p
          obtain ⟨rfl, hx⟩ := y
          rw [List.getElem?_map] at hx
          obtain ⟨u, hcu, rfl⟩ := Option.map_eq_some_iff.mp hx
          have cm := List.mem_of_getElem? hcu
          have ca := (hc12 u cm).kp (Kp.of e)
          obtain ⟨dc, tc, hcc, _⟩ := id ca
          have lw := hw.len
          have few := okl.few
          rw [List.length_map, List.length_take] at lw
          refine ⟨rfl, _, rfl, u.1, dc, _, rfl, hcc, rfl, _, rfl, u.1, u.2, z, rfl, ca, (okl.ok u cm).parts, fun p H3 e3 np wp => ?_⟩
          have hD3 := e3 _ _ hD
          refine ⟨_, hD3, by rw [List.length_map, sizeLine_eq]; omega, Ext.put (e.trans e3) nD3, ws ++ [p], ?_, ?_⟩
          · rw [upd_same, List.map_append]
            rfl
          · rw [take_snoc hcu, List.map_append]
            exact paired_snoc (wp.kp (Kp.put hD3)) ((hw.ext e3).kp (Kp.put hD3))
        obtain ⟨e13, ws, hD3, hw⟩ := p
        rw [List.length_map, List.take_length] at hw
        obtain ⟨st0, stz⟩ := stock_ok okl h20 z
        have n0 : 0 < 20 := by decide
        refine ⟨D3, _, rfl, .inl ⟨SqL.of hD3, fun TW nTW => ?_⟩⟩
        refine ⟨TW, ws, l.map fun x => wof x.2.parts z, 20, rfl, .inr (SqT.of upd_same), hw.ext (Ext.upd nTW), fun r hr => ?_, n0, ?_, fun pst H15 e15 nps wps => ?_⟩
        · obtain ⟨x, hx, rfl⟩ := List.mem_map.mp hr
          exact ⟨wof_nn (okl.ok x hx).parts z, wof_sz20 (okl.ok x hx).parts (h20 x hx) z⟩
        · rw [List.length_map]
          have few := okl.few
          exact Nat.le_trans (Nat.mul_le_mul_right 21 (show l.length + 1 ≤ 13 by omega)) (by decide)
        have wps' : WAt K H15 pst (stockOf l z) := wps
        obtain ⟨dst, hst⟩ := id wps'
        refine ⟨pst, dst, _, rfl, hst, rfl, pst, stockOf l z, 300, rfl, wps', st0, stz, by decide, by decide, fun wh wh0 => ?_⟩
        have e1215 : Ext G2 H15 := (e13.trans (Ext.upd nTW)).trans e15
        have dk15 := dk12.ext e1215
        have eG15 := eG12.trans (EX.of e1215)
        have hT15 := hT12.ext e1215
        have sN15 := sN12.ext e1215
        have hn15 := hn12.kp (Kp.of e1215)
        have mm : ∀ m, m = (if wh + 2 < 10 ^ (5 : Int).toNat then wh + 2 else 10 ^ (5 : Int).toNat) → 1 ≤ m ∧ m ≤ 100000 := fun m e => by
          rw [e, e105]
          split <;> omega
        refine ⟨3, rfl, by decide, by decide, ?_⟩
        refine for_it (walk_range (lo := 0) (n := 3)) (fun j σ H' => (∃ x8 x9 x10, σ = [some (.ref a), some (.int c), some (.ref d), some (.ref M), some (.ref T), some (.str z), some (.ref TN), some (.int wh), x8, x9, x10, none, none]) ∧ EX d H15 H' ∧ DeckAt H' d (2000 + 200 * i + 100 + 2 * j) ∧ LamX.Tabs (TT K) H')
          ⟨⟨_, _, _, rfl⟩, EX.rfl', dk15, hT15⟩ (fun _ _ _ _ _ => trivial) (fun j x σ H16 H17 hj p y => ?_) fun σ H16 p => ?_
        · obtain ⟨⟨x8, x9, x10, rfl⟩, e16, dk16, hT16⟩ := p
          obtain ⟨rfl, rfl⟩ := y
          obtain ⟨m1, m2⟩ := mm _ rfl
          refine ⟨_, rfl, _, _, rfl, rfl, ⟨by decide, by decide, by decide⟩, _, rfl, _, _, rfl, rfl, _, _, rfl, ?_⟩
          refine ⟨d, _, 2000 + 200 * i + 100 + 2 * j, rfl, m1, by omega, dk16, by omega, fun r1 H18 r10 r11 e18 dk18 => ⟨_, _, rfl, rfl, ?_⟩⟩
          refine ⟨_, rfl, _, _, rfl, rfl, ⟨by decide, by decide, by decide⟩, _, rfl, _, _, rfl, rfl, _, _, rfl, ?_⟩
          refine ⟨d, _, 2000 + 200 * i + 100 + 2 * j + 1, rfl, m1, by omega, dk18, by omega, fun r2 H19 r20 r21 e19 dk19 => ⟨_, _, rfl, rfl, ?_⟩⟩
          have eG19 := ((eG15.trans e16).trans (EX.eb e18)).trans (EX.eb e19)
          have hT19 := e19.tabs dk18 (e18.tabs dk16 hT16)
          refine ⟨_, rfl, _, rfl, _, rfl, _, rfl, T, l, z, 1 + r1, 1 + r2, rfl, SqT.ex sT7 eG19 dk7, hc7.kp (eG19.kp dk7), okl, h20, hT19, by omega, by omega, by omega, by omega, fun H20 en => ⟨true, rfl, iteF (nxt ?_)⟩⟩
          exact ⟨⟨_, _, _, rfl⟩, ((e16.trans (EX.eb e18)).trans (EX.eb e19)).trans (EX.en en), (dk19.en en).mono (by omega), en.2 hT19⟩
        · obtain ⟨⟨x8, x9, x10, rfl⟩, e16, dk16, hT16⟩ := p
          have eG16 := eG15.trans e16
          refine ⟨_, rfl, _, rfl, _, rfl, _, rfl, d, T, TN, z, l, ln, 2000 + 200 * i + 100 + 2 * 3, rfl, dk16, by omega, SqT.ex sT7 eG16 dk7, hc7.kp (eG16.kp dk7), okl, h20, SqT.ex sN15 e16 dk15, hn15.kp (e16.kp dk15), okln, few, ndl, fun H17 e17 dk17 => ⟨true, rfl, iteF (nxt ?_)⟩⟩
          exact ⟨⟨_, _, _, _, _, _, rfl⟩, eG16.trans (EX.eb e17), dk17.mono (by omega), e17.tabs dk16 hT16⟩
      · obtain ⟨⟨x5, x6, x7, x8, x9, x10, rfl⟩, eG, dk8, hT8⟩ := p
        exact ⟨⟨_, _, _, _, _, _, _, _, _, _, rfl⟩, hT8, eG _ _ nLd hL7 fun _ z => by cases z⟩
    · exact q _
end
end K34
set_option Elab.async false
set_option linter.all false
set_option maxRecDepth 100000
set_option maxHeartbeats 0
namespace K34
open PySem PySem.Spec PyProof.Rows L2
def names1 : List PySem.Str := ["CaskError", "Wrong", "NoName", "NoGrains", "NoDay", "NoWeight", "Unborne", "Short", "NoWhole", "NoWare", "LETTERS", "SIXTEENS", "LONGEST_NAME", "LONGEST_NUMBER", "LAST_DAY"]
def names2 : List PySem.Str := ["is_whole", "is_name", "is_mark", "mark_number", "is_grains", "is_day", "divisor_of", "Weight", "total", "MOST_PARTS", "is_part", "is_parts", "Cask", "with_parts", "casks_by_age"]
def names3 : List PySem.Str := ["taking", "is_taken", "taking_holds", "Note", "fields_of", "age_of", "by_age", "grains_of", "shares_of", "_law_deck", "_law_draw", "_law_names", "_law_sixteens", "_law_marks", "_law_lowest"]
def names4 : List PySem.Str := ["_law_more", "_law_weight", "_law_day", "_law_casks", "_law_made", "_law_age", "_law_notes", "_law_note", "_law_note_age", "_law_told", "_law_behind", "_law_added", "_law_twice_right", "_law_shares_right"]
def names : List PySem.Str := names1 ++ names2 ++ names3 ++ names4
theorem run (w : World) : HandSHeadRun.RunEq R (PySem.W.view R.prog [67]) hk ob 20000 names w := by
  intro os
  kernel_rfl
end K34
set_option Elab.async false
set_option linter.all false
set_option maxRecDepth 100000
set_option maxHeartbeats 0
/-! K34Z: the end. -/
namespace K34
open PySem PySem.Spec PyProof.Rows L2
theorem facts {P : Program} {w : World} {K : PySem.W.Frag} {h : Heap} {mg : Str → Option Value} {f : Addr} (X : K.In h) (G : h.Ns mainGlobals mg) (hfa : mg ("law" : Str) = some (.ref f)) (c : He.SaysX faL fnL [] tfL exB w h K) :
    ∃ (fd : FuncData) (cs : List (Addr × Addr)) (sp : Sp), (∀ p ∈ cs, h.get? p.2 = some { cls := .none, data := .fields #[] }) ∧ (∀ p ∈ cs, K.lookup p.2 = none) ∧ (∀ p ∈ cs, PySem.W.CodeHd h p.1 p.2) ∧ (∀ (s : Shared) (u : Value), BindsTo s fd ⟨[u], []⟩ [("_law_script", u)]) ∧
    (∀ (H : Hp) (a : Addr) (ns : List Int), ns.length ≤ 63 → (∀ z ∈ ns, Builtin.Int.intBits z ≤ 1048576) → (∀ p ∈ cs, H p.2 = some (.tbl #[])) → SqL K H a (ns.map V.int) → sp [.ref a] H (fun v _ => v = .bl true) fun _ _ _ => False) ∧
    ∀ base : Heap, K.In base → base.Ns mainGlobals mg → (∀ p ∈ cs, LamX.TabB base mg p.1 p.2) → FnOk P w K mg base C8.CX0 10 f fd ["_law_script"] sp := by
  have Z : Wd K mg := ⟨⟨h, X, G⟩, fun f hf => c.t.d.facts hf, c.more, fun d hd => c.t.d.defs hd⟩
  obtain ⟨fd, F⟩ := Z.d_law
  have e := hfa.symm.trans Z.g_law
  cases e
  have b := FunD.bindsA (ps := ["_law_script"]) F fun _ _ _ _ _ _ us hl => match us, hl with | [_], _ => rfl
  have q0 : (("casks_by_age", none) : He.Defn) ∈ tfL := List.mem_cons_self
  refine ⟨fd, [((He.cT K ("casks_by_age", none)).1, (He.cT K ("casks_by_age", none)).2)], spLaw K, fun p hp => ?_, fun p hp => ?_, fun p hp => ?_, fun s v => b s [v] rfl, fun H a ns hl _ ht hS => ?_, fun base KB GB tb => ?_⟩
  · rw [List.mem_singleton.mp hp]
    exact c.empty _ q0
  · rw [List.mem_singleton.mp hp]
    exact c.out _ q0
  · rw [List.mem_singleton.mp hp]
    exact PySem.W.codeHd_of_K X (c.hd _ q0)
  · refine ⟨a, ns, rfl, hS, by omega, fun p hp => ?_, fun _ => rfl⟩
    rw [List.mem_singleton.mp hp]
    exact LamX.TabS.nil (ht _ List.mem_cons_self)
  · exact ok_law Z ⟨tb _ List.mem_cons_self⟩ F
end K34
set_option Elab.async false
set_option linter.all false
set_option maxRecDepth 100000
set_option maxHeartbeats 0
open PySem PySem.W PySem.Calls PyProof.Rows
theorem PySem.Challenge.cw_casknotes_k34_whole_takings_and_shares_a_holds : PySem.Challenge.rw_casknotes_k34_whole_takings_and_shares_a.Holds := by
  w_on; o_law
  refine HandSHeadRun.head_any (r := OpenLaw.row PySem.Challenge.rw_casknotes_k34_whole_takings_and_shares_a) (q := view (OpenLaw.row PySem.Challenge.rw_casknotes_k34_whole_takings_and_shares_a).prog [67]) (H := K34.hk) (ob := K34.ob) (M := 20000) (loose := K34.names) (d := HandSHeadRun.topDef (OpenLaw.row PySem.Challenge.rw_casknotes_k34_whole_takings_and_shares_a).prog 67) (kwd := []) K34.ob_eq
    (by kernel_rfl) (fun s => by kernel_rfl) K34.run (by kernel_rfl) (by kernel_rfl) (by kernel_rfl) (by rfl) (by first | assumption | decide +kernel) (by decide +kernel) ⟨rfl, rfl, rfl, rfl, rfl, by decide +kernel⟩ ?hw ?hc
  case hw => w_witness2
  case hc =>
    refine LamX.walk_ofTsE (l := PySem.Challenge.rw_casknotes_k34_whole_takings_and_shares_a) (n := 63) (k := 10) (x := "_law_script") (CX := fun _ => C8.CX0) rfl (by decide) (by kernel_rfl) ⟨rfl, by decide, by decide⟩ ?F (fun _ _ _ _ _ z => z)
    intro w mg fa h Y G hmg0
    obtain ⟨K, KX, c⟩ := Y
    have hmg : mg ("law" : PySem.Str) = some (.ref fa) := by
      have e : (HandSHeadRun.topDef (OpenLaw.row PySem.Challenge.rw_casknotes_k34_whole_takings_and_shares_a).prog 67).name = ("law" : PySem.Str) := by kernel_rfl
      rw [← e]
      exact hmg0
    exact ⟨K, KX, K34.facts (P := PySem.Challenge.rw_casknotes_k34_whole_takings_and_shares_a.prog) (w := w) KX G hmg c⟩
