import PyProof.Rows.All
import Wide.All
import OpenK.AllK
import Wide.FinOn
import HandS.Defaults
import HandS.ExcInit
import HandS.ExcIs
import HandS.Words
import HandS.Head0
import HandS.Head1
import HandS.Head2
import HandS.Head3
import HandS.HeadEnd
import HandS.HeadHook4
import HandS.HeadWalk
import HandS.HeadNt
import HandS.ClsMeth
import KE.KStateDown
import HandS.ForMost
import HandS.ForExc
import HandS.Wide
import HandS.Dict
import HandS.ExcCtx
import HandS.Lambda
import HandS.HeadHook1
import HandS.TupAny
import HandS.Gcd
import HandS.Flow
import HandS.CallSlots
import HandS.Style
import HandS.GenList
import HandS.Star
import HandS.Iter
import HandS.IsInst
import HandS.HotCalls
import HandS.ExcField
import KE.KExcIs
import HandS.TryMany
import HandS.FStr
import HandS.StrMore
import HandS.RaiseMore
import PyProof.AssignAttr
import HandS.OwnEq
import HandS.Text
import HandS.More
import HandS.TupMul
import HandS.Small
import PyProof.InstEq
import KE.IntTextLaws
import PyProof.Rows.StrSplitCount
import PyProof.Rows.StrFirst
import PyProof.Rows.ReprOcc
import PyProof.StrLawsIn
import PySem.Challenge.RW_bendless_k03_streams_in_shortest_writing
set_option Elab.async false
set_option linter.all false
set_option maxRecDepth 100000
set_option maxHeartbeats 4000000
namespace DL
open PySem PySem.Spec PyProof.Rows L2
/-! ### what the head asks of the written part, as Bools (ahead of all else: the head's run wants the memory) -/
/-- the defs that make lambdas: told by the row -/
class RowT where
  tf : List (Str × Option Str)
/-- what the row knows of the exceptions: their classes, their fields -/
abbrev XS : Type := List (Str × List Str)
def oexB (K : PySem.W.Frag) (C : Addr) : Bool := (match K.lookup C with
  | some ⟨.type t, _, .cls cd, sl⟩ => (match cd.mro, sl.toList with
    | .ref C' :: bm, [_, _, _, _, some (.builtin n), _] => decide (t = "type") && (C' == C && (n == "ValueError.__new__" && (!cd.hasDel && (cd.hasDict && PySem.HandSPX.refsVE bm))))
    | _, _ => false)
  | _ => false) && (decide (PySem.W.findIn K (.ref C) "__setattr__" = some (some (.builtin "object.__setattr__"))) && (decide (PySem.W.subIn K (.ref C) (.type "BaseException") = some true) && (decide (PySem.W.typeIn K (.ref C) = some (.type "type")) && PySem.W.keepIn K (.ref C))))
def excCB (K : PySem.W.Frag) (C : Addr) : Bool := decide (PySem.W.findIn K (.ref C) "__getattribute__" = some (some (.builtin "BaseException.__getattribute__"))) && (decide (PySem.W.findIn K (.ref C) "__getattr__" = some none) && (decide (PySem.W.subIn K (.ref C) (.type "BaseException") = some true) && (PySem.W.hasDictIn K C &&
  (decide (PySem.W.findIn K (.ref C) "__class__" = some (some (.builtin "object.__class__"))) && (decide (PySem.W.specialIn K (.builtin "object.__class__") "__get__" = some (some (.builtin "getset_descriptor.__get__"))) && (decide (PySem.W.takesIn K (.builtin "object.__class__") = some true) && decide (PySem.W.mroIn K C (.type "object") = some true)))))))
/-- which of the law's marks an exception of the class c has -/
def aboveOf (c : Str) : List Str := if c = "NoSuch" then ["LookupError"] else if c = "Ended" then ["RuntimeError"] else ["BendlessError", "ValueError"]
def isB (c y : Str) : Bool := decide (y = c) || (aboveOf c).contains y
def marksOwn : List Str := ["BadWord", "BadStream", "BadPoint", "BadMachine", "BadForm", "BadBook", "BadPolygon", "BadTarget", "BadScript", "NotOne", "Torn", "Unlike", "Outside", "Gap", "NoValue", "TooMany", "NoSuch", "Ended", "BendlessError"]
def marksBlt : List Str := ["ValueError", "LookupError", "RuntimeError", "KeyError", "IndexError"]
def rowsOf (c : Str) : List (Str × Bool) := (marksOwn ++ marksBlt).map fun y => (y, isB c y)
def marksB (xs : List Str) (K : PySem.W.Frag) : Bool := xs.all fun c => excCB K (He.ga K c) && ((marksOwn.all fun y => decide (PySem.W.kitOne K (.ref (He.ga K c)) (.ref (He.ga K y)) = some (isB c y))) && marksBlt.all fun y => decide (PySem.W.kitOne K (.ref (He.ga K c)) (.type y.toString) = some (isB c y)))
def fldB (xs : XS) (K : PySem.W.Frag) : Bool := xs.all fun c => excCB K (He.ga K c.1) && c.2.all fun f => decide (PySem.W.findIn K (.ref (He.ga K c.1)) f = some none)
def exmB (xs ys : List Str) (K : PySem.W.Frag) : Bool := xs.all fun c => ys.all fun y => decide (PySem.W.exmOne K (.ref (He.ga K c)) (.ref (He.ga K y)) = some (decide (c = y)))
/-- a class that is raised: made so, its __init__ a def -/
def madeB (x : Str) (K : PySem.W.Frag) : Bool := oexB K (He.ga K x) && (decide (PySem.W.findIn K (.ref (He.ga K x)) "__init__" = some (some (.ref (He.ma K (He.ga K x) "__init__")))) && decide (PySem.W.typeIn K (.ref (He.ma K (He.ga K x) "__init__")) = some (.type "function")))
/-- the __init__ within a class -/
def clsDef : Stmt → Stmt
  | .ClassDef _ _ _ body .. => body.headD (.Pass ⟨0, 0, 0, 0⟩)
  | s => s
def bltB (x : Str) (id : String) (K : PySem.W.Frag) : Bool := match PySem.W.nsIn K mainGlobals x with
  | some (some (.builtin i)) => decide (i = id)
  | _ => false
abbrev defD (x : Str) (st : Stmt) : He.DefD := ⟨(x, none), x, x, defArgs st, defBody st, defScope st, [], []⟩
abbrev iniD (x : Str) (st : Stmt) : He.DefD := ⟨(x, some "__init__"), "__init__", x ++ ".__init__", defArgs st, defBody st, defScope st, [], []⟩
def allB (xs : List (PySem.W.Frag → Bool)) (K : PySem.W.Frag) : Bool := xs.all fun x => x K
/-- the j-th statement within a class -/
def mthS : Stmt → Nat → Stmt
  | .ClassDef _ _ _ body .., j => body.getD j (.Pass ⟨0, 0, 0, 0⟩)
  | s, _ => s
end DL

set_option Elab.async false
set_option linter.all false
set_option maxRecDepth 100000
set_option maxHeartbeats 4000000
namespace DL
open PySem PySem.Spec PyProof.Rows L2
/-! ### the head of a program with classes: defs at any address (a staticmethod's), the statics' table -/
structure SaysZ (fa : List He.Fa) (fn : List He.DefD) (na : List He5.DefA) (tf : List He.Defn) (ex : PySem.W.Frag → Bool) (w : World) (h : Heap) (K : PySem.W.Frag) : Prop where
  x : He.SaysX fa fn [] tf ex w h K
  a : He5.SaysA [] na K
def frZ (g : Addr → Option Obj) (n : Nat) : PySem.W.Frag := He.frT g (He5.asA g n)
abbrev AlZ : Type := He.AlX × He.AlD
def obsZ (n : Nat) (fa : List He.Fa) (fn : List He.DefD) (na : List He5.DefA) (tf : List He.Defn) (ex : PySem.W.Frag → Bool) (g : Addr → Option Obj) : AlZ :=
  ((He.obsT fa fn [] (frZ g n), ex (frZ g n) && He.tabsB g tf (frZ g n)), He5.obsA [] na (frZ g n))
def valZ (fn : List He.DefD) (na : List He5.DefA) (w : World) : AlZ := (He.valX fn [] w, He5.valA na)
theorem saysZ_of {n : Nat} {fa : List He.Fa} {fn : List He.DefD} {na : List He5.DefA} {tf : List He.Defn} {ex : PySem.W.Frag → Bool} {w : World} {h : Heap} (e : obsZ n fa fn na tf ex h.get? = valZ fn na w) : SaysZ fa fn na tf ex w h (frZ h.get? n) := by
  have e1 : He.obsT fa fn [] (frZ h.get? n) = He.valT fn [] w := congrArg (fun z : AlZ => z.1.1) e
  have e2 : (ex (frZ h.get? n) && He.tabsB h.get? tf (frZ h.get? n)) = true := congrArg (fun z : AlZ => z.1.2) e
  have e3 : He5.obsA [] na (frZ h.get? n) = He5.valA na := congrArg (fun z : AlZ => z.2) e
  obtain ⟨h1, h2⟩ := Bool.and_eq_true_iff.mp e2
  have key : ∀ p ∈ tf, PySem.W.codeHdIn (frZ h.get? n) (He.cT (frZ h.get? n) p).1 (He.cT (frZ h.get? n) p).2 = true ∧ ∃ o, h.get? (He.cT (frZ h.get? n) p).2 = some o ∧ He.emptyTab o = true := fun p hp => by
    obtain ⟨h3, h4⟩ := Bool.and_eq_true_iff.mp (List.all_eq_true.mp h2 p hp)
    refine ⟨h3, ?_⟩
    cases q : h.get? (He.cT (frZ h.get? n) p).2 with
    | none =>
      rw [q] at h4
      cases h4
    | some o =>
      rw [q] at h4
      exact ⟨o, rfl, h4⟩
  refine ⟨⟨e1, h1, fun p hp => (key p hp).1, fun p hp => ?_, fun p hp => ?_⟩, e3⟩
  · obtain ⟨_, o, q, z⟩ := key p hp
    exact He.frT_none q z
  · obtain ⟨_, o, q, z⟩ := key p hp
    rw [q, He.emptyTab_eq z]
def hookZ (n : Nat) (fa : List He.Fa) (fn : List He.DefD) (na : List He5.DefA) (tf : List He.Defn) (ex : PySem.W.Frag → Bool) : PySem.W.Hook where
  α := AlZ
  obs := fun s => obsZ n fa fn na tf ex s.heap.get?
  val := fun w => valZ fn na w
  says := fun w h => ∃ K : PySem.W.Frag, K.In h ∧ SaysZ fa fn na tf ex w h K
  of := fun _ _ e => ⟨_, He.frT_in, saysZ_of e⟩
  keeps := fun _ _ _ ⟨K, hK, c⟩ k => ⟨K, PySem.W.Frag.In.keeps hK k, ⟨⟨c.x.t, c.x.more, c.x.hd, c.x.out, fun p hp => k _ _ (c.x.empty p hp)⟩, c.a⟩⟩
theorem obsZ_eq {n : Nat} {fa : List He.Fa} {fn : List He.DefD} {na : List He5.DefA} {tf : List He.Defn} {ex : PySem.W.Frag → Bool} {g : Addr → Option Obj} {s : Shared} (h : ∀ a, g a = s.heap.get? a) : obsZ n fa fn na tf ex g = (hookZ n fa fn na tf ex).obs s := by
  have e : g = s.heap.get? := funext h
  rw [e] <;> rfl
/-- a class whose instances are made, read; its methods -/
def clsB (c : Str) (fs : List Str) (K : PySem.W.Frag) : Bool := PySem.W.plainGet K (He.ga K c) Str.empty && (PySem.W.hasDictIn K (He.ga K c) && (PySem.W.plainOver K (He.ga K c) && (decide (PySem.W.findIn K (.ref (He.ga K c)) "__setattr__" = some (some (.builtin "object.__setattr__"))) && fs.all fun f => decide (PySem.W.findIn K (.ref (He.ga K c)) f = some none))))
def mkB (c : Str) (K : PySem.W.Frag) : Bool := PySem.W.makesIn K (He.ga K c) && (decide (PySem.W.findIn K (.ref (He.ga K c)) "__init__" = some (some (.ref (He.ma K (He.ga K c) "__init__")))) && (PySem.W.isFn K (.ref (He.ma K (He.ga K c) "__init__")) && PySem.W.keepIn K (.ref (He.ga K c))))
def methB (c : Str) (ms : List Str) (K : PySem.W.Frag) : Bool := ms.all fun m => decide (PySem.W.findIn K (.ref (He.ga K c)) m = some (some (.ref (He.ma K (He.ga K c) m)))) && (PySem.W.isFn K (.ref (He.ma K (He.ga K c) m)) && PySem.W.keepIn K (.ref (He.ma K (He.ga K c) m)))
def statB (c : Str) (ms : List Str) (K : PySem.W.Frag) : Bool := PySem.W.readsIn K (He.ga K c) (.type "type") && (decide (PySem.W.specialIn K (.ref (He.ga K c)) "__getattribute__" = some (some (.builtin "type.__getattribute__"))) && ms.all fun m => He5.wrapB K (He.ga K c) "staticmethod" "staticmethod.__get__" m && PySem.W.keepIn K (.ref (He5.wf K (He.ga K c) "staticmethod" m)))
def tyN : List String := ["NoneType", "bool", "int", "str", "tuple", "list", "dict"]
abbrev metD (c m : Str) (st : Stmt) : He.DefD := ⟨(c, some m), m, c ++ "." ++ m, defArgs st, defBody st, defScope st, [], []⟩
abbrev staD (c m : Str) (st : Stmt) : He5.DefA := { at_ := fun K => He5.wf K (He.ga K c) "staticmethod" m, name := m, qual := c ++ "." ++ m, params := defArgs st, body := defBody st, scope := defScope st }
def isoB (c : Str) (cs : List Str) (K : PySem.W.Frag) : Bool := decide (PySem.W.specialIn K (.builtin "object.__class__") "__get__" = some (some (.builtin "getset_descriptor.__get__"))) && (decide (PySem.W.takesIn K (.builtin "object.__class__") = some true) &&
  ((cs.all fun d => decide (PySem.W.findIn K (.ref (He.ga K d)) "__class__" = some (some (.builtin "object.__class__"))) && (decide (PySem.W.mroIn K (He.ga K d) (.type "object") = some true) && decide (PySem.W.kitOne K (.ref (He.ga K d)) (.ref (He.ga K c)) = some (decide (d = c))))) &&
    tyN.all fun t => decide (PySem.W.kitOne K (.type t) (.ref (He.ga K c)) = some false)))
theorem clsB_ok {K : PySem.W.Frag} {c : Str} {fs : List Str} (h : clsB c fs K = true) : Cls K (He.ga K c) ∧ ∀ f ∈ fs, NoAttr K (He.ga K c) f := by
  unfold clsB at h
  simp only [Bool.and_eq_true, decide_eq_true_eq] at h
  obtain ⟨h1, h2, h3, h4, h5⟩ := h
  exact ⟨⟨h1, h2, h3, h4⟩, fun f hf => by
    have := List.all_eq_true.mp h5 f hf
    exact (of_decide_eq_true this : PySem.W.findIn K (.ref (He.ga K c)) f = some none)⟩
theorem mkB_ok {K : PySem.W.Frag} {c : Str} (h : mkB c K = true) : Mk K (He.ga K c) (He.ma K (He.ga K c) "__init__") := by
  unfold mkB at h
  simp only [Bool.and_eq_true, decide_eq_true_eq] at h
  obtain ⟨h1, h2, h3, h4⟩ := h
  exact ⟨h1, h2, h3, h4⟩
theorem methB_ok {K : PySem.W.Frag} {c m : Str} {ms : List Str} (h : methB c ms K = true) (hm : m ∈ ms) : Meth K (He.ga K c) m (He.ma K (He.ga K c) m) := by
  have := List.all_eq_true.mp h m hm
  simp only [Bool.and_eq_true, decide_eq_true_eq] at this
  exact ⟨this.1, this.2.1, this.2.2⟩
theorem statB_ok {K : PySem.W.Frag} {c : Str} {ms : List Str} (h : statB c ms K = true) : ClX.CRead K (He.ga K c) (.type "type") ∧ ∀ m ∈ ms, PySem.W.findCls K (.ref (He.ga K c)) (.type "type") m = some (.get (.builtin "staticmethod.__get__") (.ref (He.ma K (He.ga K c) m)) .none (.ref (He.ga K c))) ∧ (∃ rest, PySem.W.recIn K (He.ma K (He.ga K c) m) "staticmethod" = some (.ref (He5.wf K (He.ga K c) "staticmethod" m) :: rest)) ∧ PySem.W.keepIn K (.ref (He5.wf K (He.ga K c) "staticmethod" m)) = true := by
  unfold statB at h
  simp only [Bool.and_eq_true, decide_eq_true_eq] at h
  obtain ⟨h1, h2, h3⟩ := h
  refine ⟨⟨h1, h2⟩, fun m hm => ?_⟩
  have := List.all_eq_true.mp h3 m hm
  rw [Bool.and_eq_true] at this
  obtain ⟨k1, k2⟩ := He5.wrapB_ok this.1
  exact ⟨k1, k2, this.2⟩
/-! ### a run in parts: the kernel's memory -/
theorem run_join {σ A B E : Type} {o : Option σ} {l : σ → Bool} {s : σ → A} {t : σ → B} {c d e : σ → Bool} {u : σ → E} {good : A} {vt : B} {vu : E} (h1 : o.map (fun x => (l x, s x)) = some (true, good)) (h2 : o.map (fun x => t x) = some vt) (h3 : o.map (fun x => c x) = some true) (h4 : o.map (fun x => d x) = some true) (h5 : o.map (fun x => u x) = some vu) (h : ∀ x, c x = true → d x = true → e x = true) : o.map (fun x => (l x, s x, ((t x, e x), u x))) = some (true, good, ((vt, true), vu)) := by
  cases o with
  | none => cases h1
  | some x =>
    have k1 := Option.some.inj h1
    have k2 := Option.some.inj h2
    have k3 := Option.some.inj h3
    have k4 := Option.some.inj h4
    have k5 := Option.some.inj h5
    have a := congrArg Prod.fst k1
    have b := congrArg Prod.snd k1
    simp only at a b k2 k3 k4 k5
    simp only [Option.map_some, a, b, k2, k5, h x k3 k4]
theorem allB_app {a b xs : List (PySem.W.Frag → Bool)} {K : PySem.W.Frag} (e : xs = a ++ b) (h1 : allB a K = true) (h2 : allB b K = true) : allB xs K = true := by
  subst e
  unfold allB at h1 h2 ⊢
  rw [List.all_append, h1, h2]
  rfl
theorem obsT_join {σ : Type} {o : Option σ} {k : σ → PySem.W.Frag} {fa : List He.Fa} {fn fn1 fn2 : List He.DefD} {w : World} (e : fn = fn1 ++ fn2) (h0 : o.map (fun x => fa.all fun f => f.ok (k x)) = some true) (h1 : o.map (fun x => fn.all fun d => d.ok (k x)) = some true) (h2 : o.map (fun x => fn1.map fun d => He.fnW (k x) d.at_) = some (fn1.map He.DefD.val)) (h3 : o.map (fun x => fn2.map fun d => He.fnW (k x) d.at_) = some (fn2.map He.DefD.val)) : o.map (fun x => He.obsT fa fn [] (k x)) = some (He.valT fn [] w) := by
  cases o with
  | none => cases h0
  | some x =>
    have k0 : (fa.all fun f => f.ok (k x)) = true := Option.some.inj h0
    have k1 : (fn.all fun d => d.ok (k x)) = true := Option.some.inj h1
    have k2 : (fn1.map fun d => He.fnW (k x) d.at_) = fn1.map He.DefD.val := Option.some.inj h2
    have k3 : (fn2.map fun d => He.fnW (k x) d.at_) = fn2.map He.DefD.val := Option.some.inj h3
    show some (He.obsT fa fn [] (k x)) = some (He.valT fn [] w)
    unfold He.obsT He.valT He.obsD He.valD
    rw [k0, k1, e, List.map_append, List.map_append, k2, k3]
    rfl
end DL

set_option Elab.async false
set_option linter.all false
set_option maxRecDepth 100000
set_option maxHeartbeats 4000000
namespace DL
open PySem PySem.Spec PyProof.Rows L2
/-! ### what a class takes from object -/
def opB (c : Str) (K : PySem.W.Frag) : Bool := (decide (PySem.W.findIn K (.ref (He.ga K c)) "__ne__" = some (some (.builtin "object.__ne__"))) && decide (PySem.W.mroIn K (He.ga K c) (.type "object") = some true)) && (decide (PySem.W.findIn K (.ref (He.ga K c)) "__bool__" = some none) && decide (PySem.W.findIn K (.ref (He.ga K c)) "__len__" = some none))
end DL

set_option Elab.async false
set_option linter.all false
set_option maxRecDepth 100000
set_option maxHeartbeats 0
namespace K03
open PySem PySem.Spec PyProof.Rows L2 DL
def topS (i : Nat) : Stmt := PySem.Challenge.pw_bendless_k03_streams_in_shortest_writing.main.body.getD i (.Pass ⟨0, 0, 0, 0⟩)
instance rowT : RowT := ⟨[("_law_refused_here", none)]⟩
def xsX : XS := [("BadStream", ["item", "why"])]
abbrev xsn : List Str := xsX.map (·.1)
def insX : XS := [("Stream", ["base", "width", "head", "period"])]
def csX : List Str := ["Stream"]
abbrev s_letter_count : Stmt := topS 2
abbrev s_shortest_writing : Stmt := topS 7
abbrev s_digit_at : Stmt := topS 8
abbrev s_Stream___init__ : Stmt := mthS (topS 40) 0
abbrev s_Stream___eq__ : Stmt := mthS (topS 40) 1
abbrev s_Stream_letter : Stmt := mthS (topS 40) 3
abbrev s_Stream_upto : Stmt := mthS (topS 40) 4
abbrev s_Stream_rest : Stmt := mthS (topS 40) 5
abbrev s_Stream_prefixed : Stmt := mthS (topS 40) 6
abbrev s_Stream_text : Stmt := mthS (topS 40) 8
abbrev s_Stream___repr__ : Stmt := mthS (topS 40) 2
abbrev s__law_draw : Stmt := topS 43
abbrev s__law_of : Stmt := topS 44
abbrev s__law_like : Stmt := topS 45
abbrev s__law_classes : Stmt := topS 46
abbrev s__law_why : Stmt := topS 48
abbrev s__law_caught : Stmt := topS 47
abbrev s__law_tried : Stmt := topS 49
abbrev s__law_refused : Stmt := topS 50
def ysn : List Str := ["BadWord", "BadStream", "BadTarget", "BadMachine", "BadForm", "BadBook", "BadPolygon", "BadPoint", "NotOne", "Torn", "Unlike", "TooMany", "NoSuch", "Ended"]
abbrev s__law_short : Stmt := topS 51
abbrev s__law_sign : Stmt := topS 52
abbrev s__law_rest : Stmt := topS 53
abbrev s__law_signs : Stmt := topS 54
abbrev s__law_longer : Stmt := topS 55
abbrev s__law_room : Stmt := topS 56
abbrev s__law_flow_said : Stmt := topS 57
abbrev s__law_same : Stmt := topS 58
abbrev s__law_moved : Stmt := topS 59
abbrev s__law_letters_asked : Stmt := topS 60
abbrev s__law_parts_asked : Stmt := topS 61
abbrev s__law_unlike_asked : Stmt := topS 62
abbrev s__law_refused_here : Stmt := topS 63
abbrev s__law_box : Stmt := topS 42
abbrev s_law : Stmt := topS 64
end K03

set_option Elab.async false
set_option linter.all false
set_option maxRecDepth 100000
set_option maxHeartbeats 0
namespace K03
open PySem PySem.Spec PyProof.Rows L2 DL
-- the run
def fn : List He.DefD := ([defD "letter_count" s_letter_count, defD "shortest_writing" s_shortest_writing, defD "digit_at" s_digit_at, defD "_law_draw" s__law_draw, defD "_law_of" s__law_of, defD "_law_like" s__law_like, defD "_law_classes" s__law_classes, defD "_law_why" s__law_why, defD "_law_caught" s__law_caught, defD "_law_tried" s__law_tried, defD "_law_refused" s__law_refused, defD "_law_short" s__law_short]) ++ ([defD "_law_sign" s__law_sign, defD "_law_rest" s__law_rest, defD "_law_signs" s__law_signs, defD "_law_longer" s__law_longer, defD "_law_room" s__law_room, defD "_law_flow_said" s__law_flow_said, defD "_law_same" s__law_same, defD "_law_moved" s__law_moved, defD "_law_letters_asked" s__law_letters_asked, defD "_law_parts_asked" s__law_parts_asked, defD "_law_unlike_asked" s__law_unlike_asked, defD "_law_refused_here" s__law_refused_here]) ++ ([defD "_law_box" s__law_box, defD "law" s_law, iniD "Stream" s_Stream___init__, metD "Stream" "__eq__" s_Stream___eq__, metD "Stream" "letter" s_Stream_letter, metD "Stream" "upto" s_Stream_upto, metD "Stream" "rest" s_Stream_rest, metD "Stream" "prefixed" s_Stream_prefixed, metD "Stream" "text" s_Stream_text, metD "Stream" "__repr__" s_Stream___repr__, iniD "BadStream" (clsDef (topS 12))])
def fr : List Str := (["IndexError", "KeyError", "LookupError", "RuntimeError", "ValueError", "bool", "dict", "int", "isinstance", "len", "list", "range"] : List Str) ++ (["repr", "str", "tuple"] : List Str)
def fa : List He.Fa := ([.glo "letter_count", .glo "shortest_writing", .glo "digit_at", .glo "_law_draw", .glo "_law_of", .glo "_law_like", .glo "_law_classes", .glo "_law_why", .glo "_law_caught", .glo "_law_tried", .glo "_law_refused", .glo "_law_short"] : List He.Fa) ++ ([.glo "_law_sign", .glo "_law_rest", .glo "_law_signs", .glo "_law_longer", .glo "_law_room", .glo "_law_flow_said", .glo "_law_same", .glo "_law_moved", .glo "_law_letters_asked", .glo "_law_parts_asked", .glo "_law_unlike_asked", .glo "_law_refused_here"] : List He.Fa) ++ ([.glo "_law_box", .glo "law", .glo "Stream"] : List He.Fa) ++ (marksOwn.map .glo ++ fr.map .free)
def na : List He5.DefA := []
def xs : List (PySem.W.Frag → Bool) := [madeB "BadStream", marksB xsn, fldB xsX, exmB xsn ysn, fun K => decide ((RowT.tf.map fun p => (He.cT K p).2).Nodup), clsB "Stream" ["base", "width", "head", "period"], mkB "Stream", methB "Stream" ["__eq__", "__repr__", "letter", "upto", "rest", "prefixed", "text"], statB "Stream" [], isoB "Stream" csX, opB "Stream"]
abbrev R : PySem.W.OpenRow := PySem.W.OpenLaw.row PySem.Challenge.rw_bendless_k03_streams_in_shortest_writing
abbrev hk : PySem.W.Hook := hookZ 6 fa fn na RowT.tf (allB xs)
def ob (s : PySem.W.SharedT) : AlZ := obsZ 6 fa fn na RowT.tf (allB xs) (HandSHeadRun.getT s)
theorem ob_eq (s : PySem.W.SharedT) : ob s = hk.obs s.abs := obsZ_eq (HandSHeadRun.getT_eq s)
def loose : List Str := (["letter_count", "power", "fold", "digit_of", "digits_for", "shortest_writing", "digit_at", "BendlessError", "BadWord", "BadStream", "BadPoint", "BadMachine"] : List Str) ++ (["BadForm", "BadBook", "BadPolygon", "BadTarget", "BadScript", "NotOne", "Torn", "Unlike", "Outside", "Gap", "NoValue", "TooMany"] : List Str) ++ (["NoSuch", "Ended", "TEXT", "WORD", "check_length", "items_of", "short_items", "read_integer", "leading_letters", "fraction", "Stream", "_law_box"] : List Str) ++ (["_law_draw", "_law_of", "_law_like", "_law_classes", "_law_caught", "_law_why", "_law_tried", "_law_refused", "_law_short", "_law_sign", "_law_rest", "_law_signs"] : List Str) ++ (["_law_longer", "_law_room", "_law_flow_said", "_law_same", "_law_moved", "_law_letters_asked", "_law_parts_asked", "_law_unlike_asked", "_law_refused_here"] : List Str)
def xs1 : List (PySem.W.Frag → Bool) := [madeB "BadStream", marksB xsn, fldB xsX, exmB xsn ysn, fun K => decide ((RowT.tf.map fun p => (He.cT K p).2).Nodup), clsB "Stream" ["base", "width", "head", "period"]]
def xs2 : List (PySem.W.Frag → Bool) := [mkB "Stream", methB "Stream" ["__eq__", "__repr__", "letter", "upto", "rest", "prefixed", "text"], statB "Stream" [], isoB "Stream" csX, opB "Stream"]
section
open HandSHeadRun PySem.W
abbrev FF (g : Addr → Option Obj) : Frag := frZ g 6
noncomputable abbrev wh (w : World) := wholeF (fun p => stepQ (denQ tabQ) p w) fenceQ 12000 R.prog
theorem runA (w : World) : (wh w).map (fun x => (looksF R.prog x.1.heap x.2.abs, seenQ (PySem.W.view R.prog [0, 64]) loose (importedModules R.prog.main.body) (fun s => xlAt (PySem.W.view R.prog [0, 64]) [] s && recOk R.toRowW.records s) x.2.abs)) = some (true, openGood (PySem.W.view R.prog [0, 64]) loose) := by kernel_rfl
def fn1 : List He.DefD := ([defD "letter_count" s_letter_count, defD "shortest_writing" s_shortest_writing, defD "digit_at" s_digit_at, defD "_law_draw" s__law_draw, defD "_law_of" s__law_of, defD "_law_like" s__law_like, defD "_law_classes" s__law_classes, defD "_law_why" s__law_why, defD "_law_caught" s__law_caught, defD "_law_tried" s__law_tried, defD "_law_refused" s__law_refused, defD "_law_short" s__law_short]) ++ ([defD "_law_sign" s__law_sign, defD "_law_rest" s__law_rest, defD "_law_signs" s__law_signs, defD "_law_longer" s__law_longer, defD "_law_room" s__law_room, defD "_law_flow_said" s__law_flow_said])
def fn2 : List He.DefD := ([defD "_law_same" s__law_same, defD "_law_moved" s__law_moved, defD "_law_letters_asked" s__law_letters_asked, defD "_law_parts_asked" s__law_parts_asked, defD "_law_unlike_asked" s__law_unlike_asked, defD "_law_refused_here" s__law_refused_here, defD "_law_box" s__law_box, defD "law" s_law, iniD "Stream" s_Stream___init__, metD "Stream" "__eq__" s_Stream___eq__, metD "Stream" "letter" s_Stream_letter, metD "Stream" "upto" s_Stream_upto]) ++ ([metD "Stream" "rest" s_Stream_rest, metD "Stream" "prefixed" s_Stream_prefixed, metD "Stream" "text" s_Stream_text, metD "Stream" "__repr__" s_Stream___repr__, iniD "BadStream" (clsDef (topS 12))])
theorem runB0 (w : World) : (wh w).map (fun x => fa.all fun f => f.ok (FF (getT x.2))) = some true := by kernel_rfl
theorem runB1 (w : World) : (wh w).map (fun x => fn.all fun d => d.ok (FF (getT x.2))) = some true := by kernel_rfl
theorem runB2 (w : World) : (wh w).map (fun x => fn1.map fun d => He.fnW (FF (getT x.2)) d.at_) = some (fn1.map He.DefD.val) := by kernel_rfl
theorem runB3 (w : World) : (wh w).map (fun x => fn2.map fun d => He.fnW (FF (getT x.2)) d.at_) = some (fn2.map He.DefD.val) := by kernel_rfl
theorem runB (w : World) : (wh w).map (fun x => He.obsT fa fn [] (FF (getT x.2))) = some (He.valT fn [] w) := obsT_join (show fn = fn1 ++ fn2 from rfl) (runB0 w) (runB1 w) (runB2 w) (runB3 w)
theorem runC (w : World) : (wh w).map (fun x => allB xs1 (FF (getT x.2))) = some true := by kernel_rfl
theorem runD (w : World) : (wh w).map (fun x => allB xs2 (FF (getT x.2)) && He.tabsB (getT x.2) RowT.tf (FF (getT x.2))) = some true := by kernel_rfl
theorem runE (w : World) : (wh w).map (fun x => He5.obsA [] na (FF (getT x.2))) = some (He5.valA na) := by kernel_rfl
theorem run (w : World) : RunEqI R (PySem.W.view R.prog [0, 64]) hk ob 12000 loose w := run_join (runA w) (runB w) (runC w) (runD w) (runE w) fun x c d => by
  obtain ⟨d1, d2⟩ := Bool.and_eq_true_iff.mp d
  exact Bool.and_eq_true_iff.mpr ⟨allB_app (show xs = xs1 ++ xs2 from rfl) c d1, d2⟩
end
end K03

set_option Elab.async false
set_option linter.all false
set_option maxRecDepth 100000
namespace DL
open PySem PySem.Spec L2

/-! ### data, results, states -/
inductive D where
  | non | bl (b : Bool) | int (i : Int) | str (x : Str) | tup (xs : List D) | lst (xs : List D) | box | dct (kvs : List (Key × D)) | exc (c : Str) (fs : List (Str × D)) | ins (c : Str) (fs : List (Str × D))
/-- a value: data that others may see, or a list of one's own -/
inductive RV where
  | v (d : D) | o (ds : List D)
def RV.d : RV → D
  | .v d => d
  | .o ds => .lst ds
inductive Slot where
  | no | v (d : D) | o (ds : List D)
structure Exc where
  cls : Str
  fs : List (Str × D)
structure S (β : Type) where
  sl : List Slot
  bx : β
inductive Out (σ α : Type) where
  | ok (a : α) (s : σ) | exc (x : Exc) (s : σ) | bad
abbrev M (β α : Type) := S β → Out (S β) α
abbrev DefM (β : Type) := List D → β → Out β RV
inductive Fl where
  | nx | rt (r : RV) | bk | ct
section
variable {β α γ : Type}
def mret (a : α) : M β α := fun s => .ok a s
def mbad : M β α := fun _ => .bad
def Out.thn {σ τ α γ : Type} (o : Out σ α) (k : α → σ → Out τ γ) (e : Exc → σ → Out τ γ) : Out τ γ := match o with
  | .ok a s => k a s
  | .exc x s => e x s
  | .bad => .bad
def mbind (m : M β α) (k : α → M β γ) : M β γ := fun s => match m s with
  | .ok a s' => k a s'
  | .exc x s' => .exc x s'
  | .bad => .bad
/-- a step that may fail -/
def opt (o : Option α) : M β α := fun s => match o with
  | some a => .ok a s
  | none => .bad
end

/-! ### the relation to the heap -/
def Ex (H H' : Hp) : Prop := ∀ a o, H a = some o → H' a = some o
theorem Ex.refl (H : Hp) : Ex H H := fun _ _ h => h
theorem Ex.trans {H H1 H2 : Hp} (a : Ex H H1) (b : Ex H1 H2) : Ex H H2 := fun x o h => b x o (a x o h)
theorem Ex.new {H : Hp} {p : Addr} {o : HO} (h : H p = none) : Ex H (upd H p o) := fun a u e => by
  rw [upd_ne (ne_of_none e h)]
  exact e
theorem Ex.rd {H H' : Hp} {a : Addr} {u : HO} (e : Ex H H') (h : Rd H a u) : Rd H' a u := by
  rcases h with h | ⟨o, h⟩
  · exact Or.inl (e a _ h)
  · exact Or.inr ⟨o, e a _ h⟩
theorem Ex.l {K : PySem.W.Frag} {H H' : Hp} {a : Addr} {xs : List V} (e : Ex H H') (h : SqL K H a xs) : SqL K H' a xs := by
  rcases h with h | h
  · exact Or.inl (e.rd h)
  · exact Or.inr h
theorem Ex.t {K : PySem.W.Frag} {H H' : Hp} {a : Addr} {xs : List V} (e : Ex H H') (h : SqT K H a xs) : SqT K H' a xs := by
  rcases h with h | h
  · exact Or.inl (e.rd h)
  · exact Or.inr h
theorem Ex.back {H H' : Hp} {p : Addr} (e : Ex H H') (h : H' p = none) : H p = none := by
  cases h1 : H p with
  | none => rfl
  | some o =>
    rw [e p o h1] at h
    cases h

/-- v stands for d, by the heap H -/
inductive Rep (K : PySem.W.Frag) (bx : Addr) (H : Hp) : V → D → Prop
  | non : Rep K bx H .non .non
  | bl {b} : Rep K bx H (.bl b) (.bl b)
  | int {i} : Rep K bx H (.int i) (.int i)
  | str {x} : Rep K bx H (.str x) (.str x)
  | tup {a vs ds} : SqT K H a vs → vs.length = ds.length → (∀ (i : Nat) (v : V) (d : D), vs[i]? = some v → ds[i]? = some d → Rep K bx H v d) → Rep K bx H (.ref a) (.tup ds)
  | lst {a vs ds} : H a = some (.lst vs) → vs.length = ds.length → (∀ (i : Nat) (v : V) (d : D), vs[i]? = some v → ds[i]? = some d → Rep K bx H v d) → Rep K bx H (.ref a) (.lst ds)
  | box : Rep K bx H (.ref bx) .box
  | dct {a ks ds} : H a = some (.dK ks) → ks.map (·.1) = ds.map (·.1) → (∀ (i : Nat) (v : V) (d : D), (ks.map (·.2))[i]? = some v → (ds.map (·.2))[i]? = some d → Rep K bx H v d) → Rep K bx H (.ref a) (.dct ds)
  | exc {a oe dd vs fs c ds} : H a = some (.frz oe (.own 0)) → oe.cls = .ref (He.ga K c) → oe.dict = some dd → oe.data = .fields vs → vs[2]? = some .none → H dd = some (.xd fs) → fs.map (·.1) = ds.map (·.1) → (∀ (i : Nat) (v : V) (d : D), (fs.map (·.2))[i]? = some v → (ds.map (·.2))[i]? = some d → Rep K bx H v d) → Rep K bx H (.ref a) (.exc c ds)
  | ins {a C dx vs c ds} : H a = some (.ins C dx vs) → C = He.ga K c → H dx = some (.own a) → vs.map (·.1) = ds.map (·.1) → (∀ (i : Nat) (v : V) (d : D), (vs.map (·.2))[i]? = some v → (ds.map (·.2))[i]? = some d → Rep K bx H v d) → Rep K bx H (.ref a) (.ins c ds)
structure Reps (K : PySem.W.Frag) (bx : Addr) (H : Hp) (vs : List V) (ds : List D) : Prop where
  len : vs.length = ds.length
  get : ∀ (i : Nat) (v : V) (d : D), vs[i]? = some v → ds[i]? = some d → Rep K bx H v d
section
variable {K : PySem.W.Frag} {bx : Addr} {H H' : Hp} {v : V} {d : D} {vs ws : List V} {ds es : List D} {a : Addr}
theorem Rep.mono (r : Rep K bx H v d) (e : Ex H H') : Rep K bx H' v d := by
  induction r with
  | non => exact .non
  | bl => exact .bl
  | int => exact .int
  | str => exact .str
  | tup h l _ ih => exact .tup (e.t h) l ih
  | lst h l _ ih => exact .lst (e _ _ h) l ih
  | box => exact .box
  | dct h l _ ih => exact .dct (e _ _ h) l ih
  | exc h h1 h2 h3 h4 h5 l _ ih => exact .exc (e _ _ h) h1 h2 h3 h4 (e _ _ h5) l ih
  | ins h h1 h2 l _ ih => exact .ins (e _ _ h) h1 (e _ _ h2) l ih
theorem Reps.mono (r : Reps K bx H vs ds) (e : Ex H H') : Reps K bx H' vs ds := ⟨r.len, fun i v d h h' => (r.get i v d h h').mono e⟩
theorem Rep.tupR (h : SqT K H a vs) (r : Reps K bx H vs ds) : Rep K bx H (.ref a) (.tup ds) := .tup h r.len r.get
theorem Rep.lstR (h : H a = some (.lst vs)) (r : Reps K bx H vs ds) : Rep K bx H (.ref a) (.lst ds) := .lst h r.len r.get
theorem Reps.nil : Reps K bx H [] [] := ⟨rfl, fun i v d h => by simp at h⟩
theorem Reps.cons (r : Rep K bx H v d) (t : Reps K bx H vs ds) : Reps K bx H (v :: vs) (d :: ds) := ⟨by simp [t.len], fun i x y h h' => by
  cases i with
  | zero => simp at h h'; subst h h'; exact r
  | succ i => exact t.get i x y (by simpa using h) (by simpa using h')⟩
theorem Reps.append (r : Reps K bx H vs ds) (t : Reps K bx H ws es) : Reps K bx H (vs ++ ws) (ds ++ es) := ⟨by simp [r.len, t.len], fun i x y h h' => by
  by_cases hi : i < vs.length
  · rw [List.getElem?_append_left hi] at h
    rw [List.getElem?_append_left (by rw [← r.len]; exact hi)] at h'
    exact r.get i x y h h'
  · rw [List.getElem?_append_right (by omega)] at h
    rw [List.getElem?_append_right (by rw [← r.len]; omega), ← r.len] at h'
    exact t.get _ x y h h'⟩
theorem Reps.one (r : Rep K bx H v d) : Reps K bx H [v] [d] := .cons r .nil
theorem Reps.cases_cons {d : D} (r : Reps K bx H vs (d :: ds)) : ∃ v ws, vs = v :: ws ∧ Rep K bx H v d ∧ Reps K bx H ws ds := by
  cases vs with
  | nil => exact absurd r.len (by simp)
  | cons v ws => exact ⟨v, ws, rfl, r.get 0 v d rfl rfl, ⟨by have := r.len; simp at this; exact this, fun i x y h h' => r.get (i + 1) x y (by simpa using h) (by simpa using h')⟩⟩
theorem Reps.cases_nil (r : Reps K bx H vs []) : vs = [] := by
  have := r.len
  cases vs with
  | nil => rfl
  | cons v ws => simp at this
theorem Reps.cases1 {d : D} (r : Reps K bx H vs [d]) : ∃ v, vs = [v] ∧ Rep K bx H v d := by
  obtain ⟨v, ws, rfl, h, t⟩ := r.cases_cons
  rw [t.cases_nil]
  exact ⟨v, rfl, h⟩
theorem Reps.cases2 {d e : D} (r : Reps K bx H vs [d, e]) : ∃ v u, vs = [v, u] ∧ Rep K bx H v d ∧ Rep K bx H u e := by
  obtain ⟨v, ws, rfl, h, t⟩ := r.cases_cons
  obtain ⟨u, rfl, h'⟩ := t.cases1
  exact ⟨v, u, rfl, h, h'⟩
/-- a child of a sequence -/
theorem Reps.at (r : Reps K bx H vs ds) {i : Nat} {d : D} (h : ds[i]? = some d) : ∃ v, vs[i]? = some v ∧ Rep K bx H v d := by
  have hi : i < ds.length := (List.getElem?_eq_some_iff.mp h).1
  have hv : i < vs.length := by rw [r.len]; exact hi
  exact ⟨vs[i], by simp [hv], r.get i _ d (by simp [hv]) h⟩
theorem Reps.atV (r : Reps K bx H vs ds) {i : Nat} {v : V} (h : vs[i]? = some v) : ∃ d, ds[i]? = some d ∧ Rep K bx H v d := by
  have hi : i < vs.length := (List.getElem?_eq_some_iff.mp h).1
  have hv : i < ds.length := by rw [← r.len]; exact hi
  exact ⟨ds[i], by simp [hv], r.get i v _ h (by simp [hv])⟩
theorem Reps.set (r : Reps K bx H vs ds) (t : Rep K bx H v d) (i : Nat) : Reps K bx H (vs.set i v) (ds.set i d) := ⟨by simp [r.len], fun j x y h h' => by
  by_cases hj : i = j
  · subst hj
    have hi : i < vs.length := by
      have := (List.getElem?_eq_some_iff.mp h).1
      simpa using this
    rw [List.getElem?_set_self hi] at h
    rw [List.getElem?_set_self (by rw [← r.len]; exact hi)] at h'
    cases h; cases h'
    exact t
  · rw [List.getElem?_set_ne hj] at h h'
    exact r.get j x y h h'⟩
theorem Reps.take (r : Reps K bx H vs ds) (n : Nat) : Reps K bx H (vs.take n) (ds.take n) := ⟨by simp [r.len], fun j x y h h' => by
  rw [List.getElem?_take] at h h'
  split at h
  · rename_i hj
    rw [if_pos hj] at h'
    exact r.get j x y h h'
  · cases h⟩
theorem Reps.drop (r : Reps K bx H vs ds) (n : Nat) : Reps K bx H (vs.drop n) (ds.drop n) := ⟨by simp [r.len], fun j x y h h' => by
  rw [List.getElem?_drop] at h h'
  exact r.get _ x y h h'⟩
theorem Reps.reverse (r : Reps K bx H vs ds) : Reps K bx H vs.reverse ds.reverse := ⟨by simp [r.len], fun j x y h h' => by
  have hj : j < vs.length := by
    have := (List.getElem?_eq_some_iff.mp h).1
    simpa using this
  rw [List.getElem?_reverse hj] at h
  rw [List.getElem?_reverse (by rw [← r.len]; exact hj), ← r.len] at h'
  exact r.get _ x y h h'⟩
theorem Reps.replicate (r : Rep K bx H v d) : ∀ n : Nat, Reps K bx H (List.replicate n v) (List.replicate n d)
  | 0 => .nil
  | n + 1 => .cons r (Reps.replicate r n)
end

/-! ### the ghost: the box's address, what its content means, the frame that stays, the wish about exceptions -/
structure G (β : Type) where
  bx : Addr
  itp : Hp → β → HO → Prop
  mono : ∀ {H H' b o}, Ex H H' → itp H b o → itp H' b o
  F : Hp
  T : List (Addr × Str) := []
/-- an exception stands for x -/
def XRep (K : PySem.W.Frag) (mg : Str → Option Value) (bx : Addr) (H0 H : Hp) (c : Value) (dd : Option Addr) (x : Exc) : Prop :=
  mg x.cls = some c ∧ ∃ d fs, dd = some d ∧ H0 d = some (.xd fs) ∧ fs.map (·.1) = x.fs.map (·.1) ∧ Reps K bx H0 (fs.map (·.2)) (x.fs.map (·.2))
/-- the tables of code objects, beside all else -/
def TabsR (T : List (Addr × Str)) (bx : Addr) (F H0 H : Hp) : Prop := ∀ p ∈ T, p.1 ≠ bx ∧ F p.1 = none ∧ H0 p.1 = none ∧ ∃ ps : Array Value, H p.1 = some (.tbl ps) ∧ TriplesOk ps.toList ∧ ∀ (pos : Pos) (cv : Value), codeAmong pos ps.toList = some cv → ∃ c, cv = .ref c ∧ c ≠ bx ∧ H c = some (LamX.CodeO c p.2)
/-- what is neither a list nor at bx stays -/
def Stay (bx : Addr) (H H' : Hp) : Prop := ∀ a o, a ≠ bx → (∀ vs, o ≠ .lst vs) → H a = some o → H' a = some o
theorem Stay.of {bx : Addr} {H H' : Hp} (e : Ex H H') : Stay bx H H' := fun a o _ _ h => e a o h
theorem Stay.upd {bx : Addr} {H : Hp} {p : Addr} {vs : List V} {o : HO} (h : H p = some (.lst vs)) : Stay bx H (upd H p o) := fun a u _ n e => by
  rw [upd_ne fun z => by subst z; rw [h] at e; exact n vs (Option.some.inj e).symm]
  exact e
theorem codeO_lst {c : Addr} {q : Str} (vs : List V) : LamX.CodeO c q ≠ .lst vs := fun z => by unfold LamX.CodeO at z; cases z
theorem TabsR.nil {bx : Addr} {F H0 H : Hp} : TabsR [] bx F H0 H := fun p h => absurd h (by simp)
theorem TabsR.keep {T : List (Addr × Str)} {bx : Addr} {F F' H0 H H0' H' : Hp} (t : TabsR T bx F H0 H) (hF : ∀ p ∈ T, (∃ ps, H p.1 = some (.tbl ps)) → F p.1 = none → F' p.1 = none) (h0 : ∀ p ∈ T, (∃ ps, H p.1 = some (.tbl ps)) → H0 p.1 = none → H0' p.1 = none) (st : Stay bx H H') : TabsR T bx F' H0' H' := fun p hp => by
  obtain ⟨n1, n2, n3, ps, e, ok, cs⟩ := t p hp
  refine ⟨n1, hF p hp ⟨ps, e⟩ n2, h0 p hp ⟨ps, e⟩ n3, ps, st _ _ n1 (fun vs z => nomatch z) e, ok, fun pos cv q => ?_⟩
  obtain ⟨c, ec, nb, hc⟩ := cs pos cv q
  exact ⟨c, ec, nb, st _ _ nb (fun vs => codeO_lst vs) hc⟩
structure Rel0 {β : Type} (g : G β) (H0 H : Hp) (b : β) : Prop where
  sub : Ex H0 H
  frm : Ex g.F H
  dis : ∀ a o, g.F a = some o → H0 a = none
  bxn : H0 g.bx = none
  bxF : g.F g.bx = none
  it : ∃ o, H g.bx = some o ∧ g.itp H0 b o
  tb : TabsR g.T g.bx g.F H0 H
def SlotR {β : Type} (K : PySem.W.Frag) (g : G β) (H0 H : Hp) (x : Option V) : Slot → Prop
  | .no => True
  | .v d => ∃ y, x = some y ∧ Rep K g.bx H0 y d
  | .o ds => ∃ p vs, x = some (.ref p) ∧ H p = some (.lst vs) ∧ Reps K g.bx H0 vs ds ∧ H0 p = none ∧ g.F p = none ∧ p ≠ g.bx
structure Rel {β : Type} (K : PySem.W.Frag) (g : G β) (H0 : Hp) (σ : L2.St) (H : Hp) (s : S β) : Prop where
  r0 : Rel0 g H0 H s.bx
  len : s.sl.length = σ.length
  slot : ∀ (i : Nat) (k : Slot) (x : Option V), s.sl[i]? = some k → σ[i]? = some x → SlotR K g H0 H x k
  dist : ∀ (i j : Nat) (ds es : List D) (p : Addr), s.sl[i]? = some (.o ds) → s.sl[j]? = some (.o es) → σ[i]? = some (some (.ref p)) → σ[j]? = some (some (.ref p)) → i = j
/-- a result -/
def ResR {β : Type} (K : PySem.W.Frag) (g : G β) (H0 : Hp) (H : Hp) (v : V) : RV → Prop
  | .v d => Rep K g.bx H0 v d
  | .o ds => ∃ p vs, v = .ref p ∧ H p = some (.lst vs) ∧ Reps K g.bx H0 vs ds ∧ H0 p = none ∧ g.F p = none ∧ p ≠ g.bx
/-- .. apart from the slots' own lists -/
def Apart (σ : L2.St) (sl : List Slot) (v : V) : RV → Prop
  | .v _ => True
  | .o _ => ∀ (i : Nat) (es : List D) (p : Addr), v = .ref p → sl[i]? = some (.o es) → σ[i]? ≠ some (some (.ref p))
section
variable {β : Type} {K : PySem.W.Frag} {g : G β} {H0 H H0' H' : Hp} {σ : L2.St} {s : S β} {v : V} {d : D} {vs : List V} {ds : List D} {p : Addr}
theorem SlotR.mono {x : Option V} {k : Slot} (h : SlotR K g H0 H x k) (e0 : Ex H0 H0') (e : ∀ p, H0 p = none → g.F p = none → p ≠ g.bx → ∀ o, x = some (.ref p) → H p = some o → H' p = some o ∧ H0' p = none) : SlotR K g H0' H' x k := by
  cases k with
  | no => trivial
  | v d => obtain ⟨y, e1, r⟩ := h; exact ⟨y, e1, r.mono e0⟩
  | o ds =>
    obtain ⟨p, vs, e1, e2, r, n0, nF, nb⟩ := h
    obtain ⟨k1, k2⟩ := e p n0 nF nb _ e1 e2
    exact ⟨p, vs, e1, k1, r.mono e0, k2, nF, nb⟩
/-- the heap grows: the frozen part by new objects -/
theorem Rel.grow (R : Rel K g H0 σ H s) (e0 : Ex H0 H0') (e : Ex H H') (sub : Ex H0' H') (new : ∀ a o, H0' a = some o → H0 a = some o ∨ H a = none) : Rel K g H0' σ H' s := by
  have back : ∀ a, H0 a = none → H a ≠ none → H0' a = none := fun a n h => by
    cases q : H0' a with
    | none => rfl
    | some o =>
      rcases new a o q with z | z
      · rw [z] at n; cases n
      · exact absurd z h
  obtain ⟨o, hb, ib⟩ := R.r0.it
  exact ⟨⟨sub, R.r0.frm.trans e, fun a o h => back a (R.r0.dis a o h) (by rw [R.r0.frm a o h]; simp), back _ R.r0.bxn (by rw [hb]; simp), R.r0.bxF, ⟨o, e _ _ hb, g.mono e0 ib⟩, R.r0.tb.keep (fun _ _ _ h => h) (fun p _ ⟨ps, q⟩ n => back _ n (by rw [q]; simp)) (.of e)⟩, R.len, fun i k x h1 h2 => (R.slot i k x h1 h2).mono e0 fun p n0 _ _ o _ hp => ⟨e p o hp, back p n0 (by rw [hp]; simp)⟩, R.dist⟩
/-- nothing is known of a new object -/
theorem Rel.more (R : Rel K g H0 σ H s) (e : Ex H H') : Rel K g H0 σ H' s :=
  R.grow (Ex.refl _) e (R.r0.sub.trans e) fun a o h => .inl h
end
end DL

set_option Elab.async false
set_option linter.all false
set_option maxRecDepth 100000
namespace DL
open PySem PySem.Spec L2
def Out.on {σ α : Type} (o : Out σ α) (k : α → σ → Prop) (e : Exc → σ → Prop) : Prop := match o with
  | .ok a s => k a s
  | .exc x s => e x s
  | .bad => False
theorem Out.on_imp {σ α : Type} {o : Out σ α} {k k' : α → σ → Prop} {e e' : Exc → σ → Prop} (h : o.on k e) (hk : ∀ a s, k a s → k' a s) (he : ∀ x s, e x s → e' x s) : o.on k' e' := by
  cases o with
  | ok a s => exact hk a s h
  | exc x s => exact he x s h
  | bad => exact h
theorem on_bind {β α γ : Type} {m : M β α} {f : α → M β γ} {s : S β} {k : γ → S β → Prop} {e : Exc → S β → Prop} : (mbind m f s).on k e ↔ (m s).on (fun a s' => (f a s').on k e) e := by
  unfold mbind
  cases m s <;> exact Iff.rfl
theorem on_opt {β α : Type} {o : Option α} {s : S β} {k : α → S β → Prop} {e : Exc → S β → Prop} : (opt (β := β) o s).on k e ↔ ∃ a, o = some a ∧ k a s := by
  unfold opt
  cases o with
  | none => exact ⟨fun h => False.elim h, fun ⟨_, h, _⟩ => nomatch h⟩
  | some a => exact ⟨fun h => ⟨a, rfl, h⟩, fun ⟨b, h, q⟩ => by cases h; exact q⟩

section
variable {β α γ : Type}
def Esc (K : PySem.W.Frag) (mg : Str → Option Value) (g : G β) (W : WX) (H0 : Hp) (σ : L2.St) (x : Exc) (s' : S β) : Prop :=
  ∀ c dd H0' H', Ex H0 H0' → Rel K g H0' σ H' s' → XRep K mg g.bx H0' H' c dd x → W c dd σ H'
/-- an expression by its mirror -/
def tE (K : PySem.W.Frag) (mg : Str → Option Value) (g : G β) (W : WX) (m : M β RV) : TE := fun σ H Q => ∃ H0 s, Rel K g H0 σ H s ∧ (m s).on
  (fun r s' => ∀ v H0' H', Ex H0 H0' → Rel K g H0' σ H' s' → ResR K g H0' H' v r → Apart σ s'.sl v r → Q v H') (Esc K mg g W H0 σ)
/-- .. its value frozen -/
def tD (K : PySem.W.Frag) (mg : Str → Option Value) (g : G β) (W : WX) (m : M β RV) : TE := fun σ H Q => ∃ H0 s, Rel K g H0 σ H s ∧ (m s).on
  (fun r s' => ∀ v H0' H', Ex H0 H0' → Rel K g H0' σ H' s' → Rep K g.bx H0' v r.d → Q v H') (Esc K mg g W H0 σ)
def tT' (K : PySem.W.Frag) (mg : Str → Option Value) (g : G β) (W : WX) (m : M β Bool) : TT := fun σ H Q => ∃ H0 s, Rel K g H0 σ H s ∧ (m s).on
  (fun b s' => ∀ H0' H', Ex H0 H0' → Rel K g H0' σ H' s' → Q b H') (Esc K mg g W H0 σ)
def tA' (K : PySem.W.Frag) (mg : Str → Option Value) (g : G β) (W : WX) (m : M β (List D)) : TA := fun σ H Q => ∃ H0 s, Rel K g H0 σ H s ∧ (m s).on
  (fun ds s' => ∀ vs H0' H', Ex H0 H0' → Rel K g H0' σ H' s' → Reps K g.bx H0' vs ds → Q vs H') (Esc K mg g W H0 σ)
end
abbrev PEM {β : Type} (X : Cx) (g : G β) (W : WX) (e : Expr) (m : M β RV) : Prop := PE X e (tE X.K X.mg g W m)
abbrev PDM {β : Type} (X : Cx) (g : G β) (W : WX) (e : Expr) (m : M β RV) : Prop := PE X e (tD X.K X.mg g W m)
abbrev PTM {β : Type} (X : Cx) (g : G β) (W : WX) (e : Expr) (m : M β Bool) : Prop := PT X e (tT' X.K X.mg g W m)
abbrev PWM {β : Type} (X : Cx) (g : G β) (W : WX) (e : Expr) (m : M β Bool) : Prop := PW X e (tT' X.K X.mg g W m)
abbrev PAM {β : Type} (X : Cx) (g : G β) (W : WX) (es : List Expr) (m : M β (List D)) : Prop := PA X es (tA' X.K X.mg g W m)

theorem PE.imp {X : Cx} {e : Expr} {t t' : TE} (h : PE X e t) (i : ∀ σ H Q, t' σ H Q → t σ H Q) : PE X e t' := ⟨fun pins s σ H Q I q => h.run pins s σ H Q I (i σ H Q q)⟩
theorem PT.imp {X : Cx} {e : Expr} {t t' : TT} (h : PT X e t) (i : ∀ σ H Q, t' σ H Q → t σ H Q) : PT X e t' := ⟨fun pins s σ H Q I q => h.run pins s σ H Q I (i σ H Q q)⟩
theorem PW.imp {X : Cx} {e : Expr} {t t' : TT} (h : PW X e t) (i : ∀ σ H Q, t' σ H Q → t σ H Q) : PW X e t' := ⟨fun w pins s σ H Q I q => h.run w pins s σ H Q I (i σ H Q q)⟩
theorem PA.imp {X : Cx} {es : List Expr} {t t' : TA} (h : PA X es t) (i : ∀ σ H Q, t' σ H Q → t σ H Q) : PA X es t' := ⟨fun p pins s σ H Q I q => h.run p pins s σ H Q I (i σ H Q q)⟩

section
variable {β : Type} {K : PySem.W.Frag} {mg : Str → Option Value} {g : G β} {W : WX} {H0 H H0' H' : Hp} {σ : L2.St} {s s' : S β} {v : V} {r : RV}
theorem Esc.back {x : Exc} (h : Esc K mg g W H0 σ x s) (e : Ex H0 H0') : Esc K mg g W H0' σ x s := fun c dd H1 H2 e2 R X => h c dd H1 H2 (e.trans e2) R X
/-- a list of one's own is let go: it will not change any more -/
theorem freeze (R : Rel K g H0 σ H s) (h : ResR K g H0 H v r) (ap : Apart σ s.sl v r) : ∃ H1, Ex H0 H1 ∧ Rel K g H1 σ H s ∧ Rep K g.bx H1 v r.d := by
  cases r with
  | v d => exact ⟨H0, Ex.refl _, R, h⟩
  | o ds =>
    obtain ⟨p, vs, rfl, hp, rs, n0, nF, nb⟩ := h
    have ex : Ex H0 (upd H0 p (.lst vs)) := Ex.new n0
    have other : ∀ a, a ≠ p → upd H0 p (.lst vs) a = H0 a := fun a h => upd_ne h
    obtain ⟨o, hb, ib⟩ := R.r0.it
    refine ⟨upd H0 p (.lst vs), ex, ⟨⟨fun a u e => ?_, R.r0.frm, fun a u e => ?_, ?_, R.r0.bxF, ⟨o, hb, g.mono ex ib⟩, R.r0.tb.keep (fun _ _ _ h => h) (fun q _ ⟨ps, e⟩ n => by rw [other _ fun z => by rw [z, hp] at e; cases e]; exact n) (.of (Ex.refl _))⟩, R.len, fun i k x h1 h2 => ?_, R.dist⟩, .lstR upd_same (rs.mono ex)⟩
    · by_cases ha : a = p
      · subst ha; rw [upd_same] at e; cases e; exact hp
      · rw [other a ha] at e; exact R.r0.sub a u e
    · have ha : a ≠ p := fun z => by subst z; rw [nF] at e; cases e
      rw [other a ha]; exact R.r0.dis a u e
    · rw [other _ (Ne.symm nb)]; exact R.r0.bxn
    · have z := R.slot i k x h1 h2
      cases k with
      | no => trivial
      | v d => obtain ⟨y, e1, rr⟩ := z; exact ⟨y, e1, rr.mono ex⟩
      | o es =>
        obtain ⟨q, ws, e1, e2, rr, m0, mF, mb⟩ := z
        refine ⟨q, ws, e1, e2, rr.mono ex, ?_, mF, mb⟩
        rw [other q fun z => ?_]
        · exact m0
        · subst z
          subst e1
          exact ap i es q rfl h1 h2
theorem tE_of_tD {m : M β RV} {Q : VK} (h : tD K mg g W m σ H Q) : tE K mg g W m σ H Q := by
  obtain ⟨H0, s, R, h⟩ := h
  refine ⟨H0, s, R, Out.on_imp h (fun r s' q v H1 H2 e R' rr ap => ?_) fun _ _ q => q⟩
  obtain ⟨H3, e3, R3, r3⟩ := freeze R' rr ap
  exact q v H3 H2 (e.trans e3) R3 r3
theorem PEM.d {X : Cx} {e : Expr} {m : M β RV} (h : PEM X g W e m) : PDM X g W e m := PE.imp h fun _ _ _ => tE_of_tD
end

/-! ### new values -/
structure Grow (H0 H H0' H' : Hp) : Prop where
  e0 : Ex H0 H0'
  e : Ex H H'
  sub : Ex H0' H'
  new : ∀ a o, H0' a = some o → H0 a = some o ∨ H a = none
def NewR (K : PySem.W.Frag) (bx : Addr) (H0' H H' : Hp) (v : V) : RV → Prop
  | .v d => Rep K bx H0' v d
  | .o ds => ∃ p vs, v = .ref p ∧ H p = none ∧ H' p = some (.lst vs) ∧ Reps K bx H0' vs ds ∧ H0' p = none
def Fin (K : PySem.W.Frag) (bx : Addr) (H0 H : Hp) (r : RV) (Q : VK) : Prop := ∀ v H0' H', Grow H0 H H0' H' → NewR K bx H0' H H' v r → Q v H'
section
variable {β : Type} {K : PySem.W.Frag} {mg : Str → Option Value} {g : G β} {W : WX} {H0 H H0' H' : Hp} {σ : L2.St} {s s' : S β} {v : V} {r : RV} {bx : Addr} {Q : VK}
theorem Grow.refl (h : Ex H0 H) : Grow H0 H H0 H := ⟨Ex.refl _, Ex.refl _, h, fun _ _ h => .inl h⟩
theorem Fin.val {d : D} (f : Fin K bx H0 H (.v d) Q) (h : Ex H0 H) (rr : Rep K bx H0 v d) : Q v H := f v H0 H (Grow.refl h) rr
theorem Fin.lst {ds : List D} {vs : List V} {p : Addr} (f : Fin K bx H0 H (.o ds) Q) (h : Ex H0 H) (rr : Reps K bx H0 vs ds) (hp : H p = none) : Q (.ref p) (upd H p (.lst vs)) :=
  f _ H0 _ ⟨Ex.refl _, Ex.new hp, h.trans (Ex.new hp), fun _ _ h => .inl h⟩ ⟨p, vs, rfl, hp, upd_same, rr, h.back hp⟩
theorem Fin.tup {ds : List D} {vs : List V} {p : Addr} (f : Fin K bx H0 H (.v (.tup ds)) Q) (h : Ex H0 H) (rr : Reps K bx H0 vs ds) (hp : H p = none) : Q (.ref p) (upd H p (.tup vs)) := by
  have n0 := h.back hp
  refine f _ (upd H0 p (.tup vs)) _ ⟨Ex.new n0, Ex.new hp, fun a o e => ?_, fun a o e => ?_⟩ (.tupR (.of upd_same) (rr.mono (Ex.new n0)))
  · by_cases ha : a = p
    · subst ha; rw [upd_same] at e ⊢; exact e
    · rw [upd_ne ha] at e ⊢; exact h a o e
  · by_cases ha : a = p
    · subst ha; exact .inr hp
    · rw [upd_ne ha] at e; exact .inl e
/-- a grown state, its new value -/
theorem Rel.fin (R : Rel K g H0 σ H s) (gr : Grow H0 H H0' H') (nw : NewR K g.bx H0' H H' v r) : Rel K g H0' σ H' s ∧ ResR K g H0' H' v r ∧ Apart σ s.sl v r := by
  refine ⟨R.grow gr.e0 gr.e gr.sub gr.new, ?_, ?_⟩
  · cases r with
    | v d => exact nw
    | o ds =>
      obtain ⟨p, vs, rfl, hp, hp', rs, n0⟩ := nw
      refine ⟨p, vs, rfl, hp', rs, n0, ?_, fun z => ?_⟩
      · cases q : g.F p with
        | none => rfl
        | some o => rw [R.r0.frm _ _ q] at hp; cases hp
      · obtain ⟨o, hb, _⟩ := R.r0.it
        rw [z, hb] at hp; cases hp
  · cases r with
    | v d => trivial
    | o ds =>
      obtain ⟨p, vs, rfl, hp, hp', rs, n0⟩ := nw
      intro i es q e1 h1 h2
      cases e1
      have z := R.slot i _ _ h1 h2
      obtain ⟨q, ws, e2, e3, _⟩ := z
      cases e2
      rw [hp] at e3; cases e3
end

/-! ### the rules -/
section
variable {β : Type} {X : Cx} {g : G β} {W : WX} {a b c e : Expr} {m ma mb mc : M β RV} {pos : Pos}
/-- a value that is read -/
def rdV (i : Nat) : M β RV := fun s => match s.sl[i]? with
  | some (.v d) => .ok (.v d) s
  | some (.o ds) => .ok (.v (.lst ds)) { s with sl := s.sl.set i (.v (.lst ds)) }
  | _ => .bad
def cst (d : D) : M β RV := mret (.v d)
theorem e_c {v : V} {d : D} (h : PE X e (tC v)) (r : ∀ H0, Rep X.K g.bx H0 v d) : PEM X g W e (cst d) := PE.imp h fun σ H Q ⟨H0, s, R, q⟩ => q v H0 H (Ex.refl _) R (r H0) trivial
theorem e_int {i : Int} {j} : PEM X g W (.Constant (.int i) j pos) (cst (.int i)) := e_c pe_int fun _ => .int
theorem e_bl {k : Bool} {j} : PEM X g W (.Constant (.bool k) j pos) (cst (.bl k)) := e_c pe_bl fun _ => .bl
theorem e_non {j} : PEM X g W (.Constant .none j pos) (cst .non) := e_c pe_non fun _ => .non
theorem e_str {x j} : PEM X g W (.Constant (.str x) j pos) (cst (.str x)) := e_c pe_str fun _ => .str
theorem e_v (i : Nat) {x : Str} (hN : X.N[i]? = some x := by rfl) (hv : Vis X.env.scope x := by first | exact Or.inl rfl | exact Or.inr (Or.inl rfl) | exact Or.inr (Or.inr rfl)) (hd : (x == ("__debug__" : Str)) = false := by decide)
    (hcd : (x == ("__classdict__" : Str)) = false := by decide) : PEM X g W (.Name x pos) (rdV i) := by
  refine PE.imp (pe_var hN hv hd hcd) fun σ H Q ⟨H0, s, R, q⟩ => ?_
  unfold rdV at q
  cases hs : s.sl[i]? with
  | none => rw [hs] at q; exact q.elim
  | some k =>
    rw [hs] at q
    have hi : i < σ.length := by
      rw [← R.len]; exact (List.getElem?_eq_some_iff.mp hs).1
    have sr := R.slot i k σ[i] hs (by simp [hi])
    cases k with
    | no => exact q.elim
    | v d =>
      obtain ⟨y, e1, r⟩ := sr
      exact ⟨y, by simp [hi, e1], q y H0 H (Ex.refl _) R r trivial⟩
    | o ds =>
      obtain ⟨p, vs, e1, hp, rs, n0, nF, nb⟩ := sr
      have hx : σ[i]? = some (some (V.ref p)) := by simp [hi, e1]
      -- the slot's list is let go
      have R1 : Rel X.K g H0 σ H { s with sl := s.sl.set i .no } := ⟨R.r0, by simpa using R.len, fun j k x h1 h2 => by
        by_cases hj : i = j
        · subst hj
          rw [List.getElem?_set_self (by rw [R.len]; exact hi)] at h1
          cases h1; trivial
        · rw [List.getElem?_set_ne hj] at h1
          exact R.slot j k x h1 h2, fun j l ds es p h1 h2 => by
        by_cases hj : i = j
        · subst hj
          have h1 : (s.sl.set i Slot.no)[i]? = some (.o ds) := h1
          rw [List.getElem?_set_self (by rw [R.len]; exact hi)] at h1
          cases h1
        · by_cases hl : i = l
          · subst hl
            have h2 : (s.sl.set i Slot.no)[i]? = some (.o es) := h2
            rw [List.getElem?_set_self (by rw [R.len]; exact hi)] at h2
            cases h2
          · have h1 : (s.sl.set i Slot.no)[j]? = some (.o ds) := h1
            have h2 : (s.sl.set i Slot.no)[l]? = some (.o es) := h2
            rw [List.getElem?_set_ne hj] at h1
            rw [List.getElem?_set_ne hl] at h2
            exact R.dist j l ds es p h1 h2⟩
      have ap : Apart σ (s.sl.set i .no) (.ref p) (.o ds) := fun j es q e2 h1 h2 => by
        cases e2
        by_cases hj : i = j
        · subst hj
          rw [List.getElem?_set_self (by rw [R.len]; exact hi)] at h1
          cases h1
        · rw [List.getElem?_set_ne hj] at h1
          exact hj (R.dist i j ds es p hs h1 hx h2)
      obtain ⟨H1, e1', R2, rp⟩ := freeze (r := .o ds) (v := .ref p) R1 ⟨p, vs, rfl, hp, rs, n0, nF, nb⟩ ap
      refine ⟨.ref p, hx, q _ H1 H e1' ⟨R2.r0, by simpa using R.len, fun j k x h1 h2 => ?_, fun j l ds' es q h1 h2 h3 h4 => ?_⟩ rp trivial⟩
      · have h1 : (s.sl.set i (.v (.lst ds)))[j]? = some k := h1
        by_cases hj : i = j
        · subst hj
          rw [List.getElem?_set_self (by rw [R.len]; exact hi)] at h1
          cases h1
          rw [hx] at h2; cases h2
          exact ⟨_, rfl, rp⟩
        · rw [List.getElem?_set_ne hj] at h1
          exact R2.slot j k x (by show (s.sl.set i Slot.no)[j]? = some k; rw [List.getElem?_set_ne hj]; exact h1) h2
      · have h1 : (s.sl.set i (.v (.lst ds)))[j]? = some (.o ds') := h1
        have h2 : (s.sl.set i (.v (.lst ds)))[l]? = some (.o es) := h2
        by_cases hj : i = j
        · subst hj
          rw [List.getElem?_set_self (by rw [R.len]; exact hi)] at h1
          cases h1
        · by_cases hl : i = l
          · subst hl
            rw [List.getElem?_set_self (by rw [R.len]; exact hi)] at h2
            cases h2
          · rw [List.getElem?_set_ne hj] at h1
            rw [List.getElem?_set_ne hl] at h2
            exact R.dist j l ds' es q h1 h2 h3 h4
end
end DL

set_option Elab.async false
set_option linter.all false
set_option maxRecDepth 100000
namespace DL
open PySem PySem.Spec L2
/-! ### operations on data -/
def asB : D → Option Bool
  | .bl b => some b
  | _ => none
theorem asB_eq {d : D} {b : Bool} (h : asB d = some b) : d = .bl b := by
  unfold asB at h
  split at h
  · cases h; rfl
  · cases h
def mIte {β α : Type} (b : Bool) (x y : M β α) : M β α := fun s => match b with
  | true => x s
  | false => y s
def mulOk (i j : Int) : Bool := decide (i.natAbs.log2 + j.natAbs.log2 < 1000000)
def addD : D → D → Option RV
  | .int i, .int j => some (.v (.int (i + j)))
  | .str x, .str y => if x.length + y.length ≤ sizeLine then some (.v (.str (x ++ y))) else none
  | .tup xs, .tup ys => if xs.length + ys.length ≤ sizeLine then some (.v (.tup (xs ++ ys))) else none
  | .lst xs, .lst ys => if xs.length + ys.length ≤ sizeLine then some (.o (xs ++ ys)) else none
  | _, _ => none
def subD : D → D → Option RV
  | .int i, .int j => some (.v (.int (i - j)))
  | _, _ => none
def mulD : D → D → Option RV
  | .int i, .int j => if mulOk i j then some (.v (.int (i * j))) else none
  | .lst xs, .int k => if -(2 ^ 63) ≤ k ∧ k < 2 ^ 63 ∧ xs.length * k.toNat ≤ sizeLine then some (.o (List.replicate k.toNat xs).flatten) else none
  | _, _ => none
def fdivD : D → D → Option RV
  | .int i, .int j => if 0 < j ∧ j.natAbs.log2 < 9000 then some (.v (.int (i / j))) else none
  | _, _ => none
def modD : D → D → Option RV
  | .int i, .int j => if 0 < j then some (.v (.int (i % j))) else none
  | _, _ => none
def powD : D → D → Option RV
  | .int i, .int j => if 0 ≤ j ∧ j ≤ 1000000 ∧ i.natAbs < 2 ^ 64 then some (.v (.int (i ^ j.toNat))) else none
  | _, _ => none
def negD : D → Option RV
  | .int i => some (.v (.int (-i)))
  | _ => none
def cmpD (p : Int → Int → Bool) : D → D → Option RV
  | .int i, .int j => some (.v (.bl (p i j)))
  | _, _ => none
def ltD := cmpD fun i j => decide (i < j)
def leD := cmpD fun i j => decide (i ≤ j)
def gtD := cmpD fun i j => decide (j < i)
def geD := cmpD fun i j => decide (j ≤ i)
mutual
def toPy : D → Option PyData
  | .non => some .none
  | .bl b => some (.bool b)
  | .int i => some (.int i)
  | .str x => some (.str x)
  | .tup xs => (toPys xs).map .tuple
  | .lst xs => (toPys xs).map .list
  | .box => none
  | .dct _ => none
  | .exc _ _ => none
  | .ins _ _ => none
def toPys : List D → Option (List PyData)
  | [] => some []
  | d :: ds => match toPy d, toPys ds with
    | some p, some ps => some (p :: ps)
    | _, _ => none
end
def eqD (d e : D) : Option RV := match toPy d, toPy e with
  | some a, some b => if SeqAt.shaped a ∧ SeqAt.shaped b then some (.v (.bl (PyData.eqv a b))) else none
  | _, _ => none
def neD (d e : D) : Option RV := match toPy d, toPy e with
  | some a, some b => if SeqAt.shaped a ∧ SeqAt.shaped b then some (.v (.bl (!PyData.eqv a b))) else none
  | _, _ => none
def isND : D → Option RV
  | .non => some (.v (.bl true))
  | _ => some (.v (.bl false))
def notND : D → Option RV
  | .non => some (.v (.bl false))
  | _ => some (.v (.bl true))
def ixD : D → D → Option RV
  | .lst ds, .int i => (atI ds i).map .v
  | .tup ds, .int i => (atI ds i).map .v
  | .str z, .int i => if z.length ≤ sizeLine then (atI z.cps.toList i).map fun c => .v (.str ⟨#[c]⟩) else none
  | _, _ => none
section
variable {K : PySem.W.Frag} {bx : Addr} {H0 H : Hp} {v : V} {d : D}
theorem dpAll : ∀ {vs : List V} {ds : List D} {ps : List PyData}, (∀ (i : Nat) (v : V) (d : D), vs[i]? = some v → ds[i]? = some d → ∀ p, toPy d = some p → Dp K H v p) → vs.length = ds.length → toPys ds = some ps → DpAll K H vs ps
  | [], [], ps, _, _, h => by
    unfold toPys at h; cases h; exact .nil
  | v :: vs, d :: ds, ps, hi, hl, h => by
    unfold toPys at h
    cases e1 : toPy d with
    | none => rw [e1] at h; cases h
    | some p =>
      cases e2 : toPys ds with
      | none => rw [e1, e2] at h; cases h
      | some qs =>
        rw [e1, e2] at h; cases h
        exact .cons (hi 0 v d rfl rfl p e1) (dpAll (fun i w e h1 h2 => hi (i + 1) w e (by simpa using h1) (by simpa using h2)) (by simpa using hl) e2)
  | [], _ :: _, _, _, hl, _ => by simp at hl
  | _ :: _, [], _, _, hl, _ => by simp at hl
theorem Rep.dp (r : Rep K bx H v d) : ∀ p, toPy d = some p → Dp K H v p := by
  induction r with
  | non => intro p h; unfold toPy at h; cases h; exact .non
  | bl => intro p h; unfold toPy at h; cases h; exact .bl _
  | int => intro p h; unfold toPy at h; cases h; exact .int _
  | str => intro p h; unfold toPy at h; cases h; exact .str _
  | tup h l _ ih =>
    intro p hp
    unfold toPy at hp
    simp only [Option.map_eq_some_iff] at hp
    obtain ⟨ps, e, rfl⟩ := hp
    exact .tup h (dpAll ih l e)
  | lst h l _ ih =>
    intro p hp
    unfold toPy at hp
    simp only [Option.map_eq_some_iff] at hp
    obtain ⟨ps, e, rfl⟩ := hp
    exact .lst (.of h) (dpAll ih l e)
  | box => intro p h; unfold toPy at h; cases h
  | dct => intro p h; unfold toPy at h; cases h
  | exc => intro p h; unfold toPy at h; cases h
  | ins => intro p h; unfold toPy at h; cases h
end
def OpOk (K : PySem.W.Frag) (r : R2) (f : D → D → Option RV) : Prop := ∀ bx H0 H x y dx dy rz Q, Ex H0 H → Rep K bx H0 x dx → Rep K bx H0 y dy → f dx dy = some rz → Fin K bx H0 H rz Q → r x y H Q
def UnOk (K : PySem.W.Frag) (r : V → Hp → VK → Prop) (f : D → Option RV) : Prop := ∀ bx H0 H x dx rz Q, Ex H0 H → Rep K bx H0 x dx → f dx = some rz → Fin K bx H0 H rz Q → r x H Q
def CallOk (K : PySem.W.Frag) (r : List V → Hp → VK → Prop) (f : List D → Option RV) : Prop := ∀ bx H0 H xs dxs rz Q, Ex H0 H → Reps K bx H0 xs dxs → f dxs = some rz → Fin K bx H0 H rz Q → r xs H Q
section
variable {β : Type} {K : PySem.W.Frag} {mg : Str → Option Value} {g : G β} {W : WX} {H : Hp} {σ : L2.St} {Q : VK}
def eBin (f : D → D → Option RV) (ma mb : M β RV) : M β RV := mbind ma fun x => mbind mb fun y => opt (f x.d y.d)
def eUn (f : D → Option RV) (ma : M β RV) : M β RV := mbind ma fun x => opt (f x.d)
def eApp (f : List D → Option RV) (ma : M β (List D)) : M β RV := mbind ma fun x => opt (f x)
theorem fin_of2 {H0' H' : Hp} {s : S β} {r : RV} {Q : VK} (R : Rel K g H0' σ H' s) (h : ∀ v H1 H2, Ex H0' H1 → Rel K g H1 σ H2 s → ResR K g H1 H2 v r → Apart σ s.sl v r → Q v H2) : Fin K g.bx H0' H' r Q := fun v H1 H2 gr nw => by
  obtain ⟨R2, rr, ap⟩ := R.fin gr nw
  exact h v H1 H2 gr.e0 R2 rr ap
theorem fin_of {H0 H0' H' : Hp} {s : S β} {r : RV} {Q : VK} (R : Rel K g H0' σ H' s) (e0 : Ex H0 H0') (h : ∀ v H1 H2, Ex H0 H1 → Rel K g H1 σ H2 s → ResR K g H1 H2 v r → Apart σ s.sl v r → Q v H2) : Fin K g.bx H0' H' r Q :=
  fin_of2 R fun v H1 H2 e R2 rr ap => h v H1 H2 (e0.trans e) R2 rr ap
theorem bin_tE {r : R2} {f : D → D → Option RV} {ma mb : M β RV} (ok : OpOk K r f) (h : tE K mg g W (eBin f ma mb) σ H Q) : tOp r (tD K mg g W ma) (tD K mg g W mb) σ H Q := by
  obtain ⟨H0, s, R, h⟩ := h
  unfold eBin at h
  rw [on_bind] at h
  refine ⟨H0, s, R, Out.on_imp h (fun x s1 h v H1 Hr1 e1 R1 r1 => ?_) fun _ _ q => q⟩
  rw [on_bind] at h
  refine ⟨H1, s1, R1, Out.on_imp h (fun y s2 h u H2 Hr2 e2 R2 r2 => ?_) fun _ _ q => q.back e1⟩
  rw [on_opt] at h
  obtain ⟨rz, ez, h⟩ := h
  exact ok g.bx H2 Hr2 v u x.d y.d rz Q R2.r0.sub (r1.mono e2) r2 ez (fin_of R2 (e1.trans e2) h)
theorem un_tE {r : V → Hp → VK → Prop} {f : D → Option RV} {ma : M β RV} (ok : UnOk K r f) (h : tE K mg g W (eUn f ma) σ H Q) : tUn r (tD K mg g W ma) σ H Q := by
  obtain ⟨H0, s, R, h⟩ := h
  unfold eUn at h
  rw [on_bind] at h
  refine ⟨H0, s, R, Out.on_imp h (fun x s1 h v H1 Hr1 e1 R1 r1 => ?_) fun _ _ q => q⟩
  rw [on_opt] at h
  obtain ⟨rz, ez, h⟩ := h
  exact ok g.bx H1 Hr1 v x.d rz Q R1.r0.sub r1 ez (fin_of R1 e1 h)
theorem app_tE {r : List V → Hp → VK → Prop} {f : List D → Option RV} {ma : M β (List D)} (ok : CallOk K r f) (h : tE K mg g W (eApp f ma) σ H Q) : tCB r (tA' K mg g W ma) σ H Q := by
  obtain ⟨H0, s, R, h⟩ := h
  unfold eApp at h
  rw [on_bind] at h
  refine ⟨H0, s, R, Out.on_imp h (fun x s1 h v H1 Hr1 e1 R1 r1 => ?_) fun _ _ q => q⟩
  rw [on_opt] at h
  obtain ⟨rz, ez, h⟩ := h
  exact ok g.bx H1 Hr1 v x rz Q R1.r0.sub r1 ez (fin_of R1 e1 h)
end
section
variable {K : PySem.W.Frag}
theorem OpOk.int {C : Int → Int → Prop} {h : Int → Int → V} {f : D → D → Option RV} (hf : ∀ dx dy rz, f dx dy = some rz → ∃ i j, dx = .int i ∧ dy = .int j ∧ C i j ∧ ∃ d, rz = .v d ∧ ∀ bx H, Rep K bx H (h i j) d) : OpOk K (rI C h) f := fun bx H0 H x y dx dy rz Q sub rx ry e k => by
  obtain ⟨i, j, rfl, rfl, c, d, rfl, rr⟩ := hf dx dy rz e
  cases rx; cases ry
  exact ⟨i, j, rfl, rfl, c, k.val sub (rr _ _)⟩
theorem OpOk.int0 {h : Int → Int → V} {f : D → D → Option RV} (hf : ∀ dx dy rz, f dx dy = some rz → ∃ i j, dx = .int i ∧ dy = .int j ∧ ∃ d, rz = .v d ∧ ∀ bx H, Rep K bx H (h i j) d) : OpOk K (rI0 h) f := fun bx H0 H x y dx dy rz Q sub rx ry e k => by
  obtain ⟨i, j, rfl, rfl, d, rfl, rr⟩ := hf dx dy rz e
  cases rx; cases ry
  exact ⟨i, j, rfl, rfl, k.val sub (rr _ _)⟩
theorem ok_sub : OpOk K (rI0 fun i j => .int (i - j)) subD := .int0 fun dx dy rz e => by
  unfold subD at e
  split at e
  · cases e; exact ⟨_, _, rfl, rfl, _, rfl, fun _ _ => .int⟩
  · cases e
theorem ok_fdiv : OpOk K (rI CDivW fun i j => .int (i / j)) fdivD := .int fun dx dy rz e => by
  unfold fdivD at e
  split at e
  · split at e
    · rename_i h; cases e; exact ⟨_, _, rfl, rfl, h, _, rfl, fun _ _ => .int⟩
    · cases e
  · cases e
theorem ok_mod : OpOk K (rI (fun _ j => 0 < j) fun i j => .int (i % j)) modD := .int fun dx dy rz e => by
  unfold modD at e
  split at e
  · split at e
    · rename_i h; cases e; exact ⟨_, _, rfl, rfl, h, _, rfl, fun _ _ => .int⟩
    · cases e
  · cases e
theorem ok_pow : OpOk K (rI CPow fun i j => .int (i ^ j.toNat)) powD := .int fun dx dy rz e => by
  unfold powD at e
  split at e
  · split at e
    · rename_i h; cases e; exact ⟨_, _, rfl, rfl, h, _, rfl, fun _ _ => .int⟩
    · cases e
  · cases e
theorem ok_cmp {p : Int → Int → Bool} : OpOk K (rI0 fun i j => .bl (p i j)) (cmpD p) := .int0 fun dx dy rz e => by
  unfold cmpD at e
  split at e
  · cases e; exact ⟨_, _, rfl, rfl, _, rfl, fun _ _ => .bl⟩
  · cases e
theorem ok_eq : OpOk K (rEqD K) eqD := fun bx H0 H x y dx dy rz Q sub rx ry e k => by
  unfold eqD at e
  split at e
  · rename_i a b ea eb
    split at e
    · rename_i hs
      cases e
      exact ⟨a, b, (rx.mono sub).dp a ea, (ry.mono sub).dp b eb, hs.1, hs.2, k.val sub .bl⟩
    · cases e
  · cases e
theorem ok_ne : OpOk K (rNeD K) neD := fun bx H0 H x y dx dy rz Q sub rx ry e k => by
  unfold neD at e
  split at e
  · rename_i a b ea eb
    split at e
    · rename_i hs
      cases e
      exact ⟨a, b, (rx.mono sub).dp a ea, (ry.mono sub).dp b eb, hs.1, hs.2, k.val sub .bl⟩
    · cases e
  · cases e
def rAddU (K : PySem.W.Frag) : R2 := fun x y H Q => rI0 (fun i j => .int (i + j)) x y H Q ∨ (∃ i j, x = .str i ∧ y = .str j ∧ i.length + j.length ≤ sizeLine ∧ Q (.str (i ++ j)) H) ∨ rCatA K x y H Q ∨ rCat x y H Q
theorem op_addU {X : Cx} : OpR X (binaryOp .Add) (rAddU X.K) := op_add.or (op_add_str.or (op_catA.or op_cat))
theorem ok_add : OpOk K (rAddU K) addD := fun bx H0 H x y dx dy rz Q sub rx ry e k => by
  unfold addD at e
  split at e
  · cases e; cases rx; cases ry; exact .inl ⟨_, _, rfl, rfl, k.val sub .int⟩
  · split at e
    · rename_i h; cases e; cases rx; cases ry; exact .inr (.inl ⟨_, _, rfl, rfl, h, k.val sub .str⟩)
    · cases e
  · split at e
    · rename_i xs ys h
      cases e
      cases rx with
      | tup hx lx gx =>
        cases ry with
        | tup hy ly gy =>
          have rx' : Reps K bx H0 _ xs := ⟨lx, gx⟩
          have ry' : Reps K bx H0 _ ys := ⟨ly, gy⟩
          refine .inr (.inr (.inl ⟨_, _, _, _, rfl, rfl, sub.t hx, sub.t hy, by rw [lx, ly]; exact h, fun e => ?_, fun _ e => ?_, fun _ _ p hp => k.tup sub (rx'.append ry') hp⟩))
          · subst e
            have : xs = [] := List.eq_nil_of_length_eq_zero (by rw [← lx]; rfl)
            subst this
            exact k.val sub (.tup hy ly gy)
          · subst e
            have : ys = [] := List.eq_nil_of_length_eq_zero (by rw [← ly]; rfl)
            subst this
            rw [List.append_nil] at k
            exact k.val sub (.tup hx lx gx)
    · cases e
  · split at e
    · rename_i xs ys h
      cases e
      cases rx with
      | lst hx lx gx =>
        cases ry with
        | lst hy ly gy =>
          have rx' : Reps K bx H0 _ xs := ⟨lx, gx⟩
          have ry' : Reps K bx H0 _ ys := ⟨ly, gy⟩
          exact .inr (.inr (.inr ⟨_, _, _, _, rfl, rfl, sub _ _ hx, sub _ _ hy, by rw [lx, ly]; exact h, fun p hp => k.lst sub (rx'.append ry') hp⟩))
    · cases e
  · cases e
def rMulU (K : PySem.W.Frag) : R2 := fun x y H Q => rI CMulW (fun i j => .int (i * j)) x y H Q ∨ rRep x y H Q
theorem op_mulU {X : Cx} : OpR X (binaryOp .Mult) (rMulU X.K) := op_mulW.or op_rep
theorem reps_flat {bx : Addr} {H : Hp} {vs : List V} {ds : List D} (r : Reps K bx H vs ds) : ∀ n : Nat, Reps K bx H (List.replicate n vs).flatten (List.replicate n ds).flatten
  | 0 => .nil
  | n + 1 => by
    rw [List.replicate_succ, List.replicate_succ, List.flatten_cons, List.flatten_cons]
    exact r.append (reps_flat r n)
theorem ok_mul : OpOk K (rMulU K) mulD := fun bx H0 H x y dx dy rz Q sub rx ry e k => by
  unfold mulD at e
  split at e
  · split at e
    · rename_i h; cases e; cases rx; cases ry; exact .inl ⟨_, _, rfl, rfl, (show _ < 1000000 from of_decide_eq_true h), k.val sub .int⟩
    · cases e
  · split at e
    · rename_i xs kk h
      cases e; cases ry
      cases rx with
      | lst hx lx gx =>
        refine .inr ⟨_, _, _, rfl, rfl, sub _ _ hx, h.1, h.2.1, by rw [lx]; exact h.2.2, fun p hp => ?_⟩
        first
          | exact k.lst sub (reps_flat ⟨lx, gx⟩ _) hp
          | skip
    · cases e
  · cases e
end
end DL

set_option Elab.async false
set_option linter.all false
set_option maxRecDepth 100000
namespace DL
open PySem PySem.Spec L2
theorem ok_mul' {K : PySem.W.Frag} : OpOk K (rMulU K) mulD := ok_mul
/-! ### operators -/
section
variable {β : Type} {X : Cx} {g : G β} {W : WX} {a b c e : Expr} {m ma mb mc : M β RV} {pos : Pos} {op : CmpOp} {op2 : Operator} {r r' : R2} {f f' : D → D → Option RV}
theorem e_bin (ho : OpR X (binaryOp op2) r) (ok : OpOk X.K r f) (ha : PEM X g W a ma) (hb : PEM X g W b mb) : PEM X g W (.BinOp a op2 b pos) (eBin f ma mb) := PE.imp (pe_op ho ha.d hb.d) fun _ _ _ => bin_tE ok
theorem e_add (ha : PEM X g W a ma) (hb : PEM X g W b mb) : PEM X g W (.BinOp a .Add b pos) (eBin addD ma mb) := e_bin op_addU ok_add ha hb
theorem e_sub (ha : PEM X g W a ma) (hb : PEM X g W b mb) : PEM X g W (.BinOp a .Sub b pos) (eBin subD ma mb) := e_bin op_sub ok_sub ha hb
theorem e_mul (ha : PEM X g W a ma) (hb : PEM X g W b mb) : PEM X g W (.BinOp a .Mult b pos) (eBin mulD ma mb) := e_bin op_mulU ok_mul ha hb
theorem e_fdiv (ha : PEM X g W a ma) (hb : PEM X g W b mb) : PEM X g W (.BinOp a .FloorDiv b pos) (eBin fdivD ma mb) := e_bin op_fdivW ok_fdiv ha hb
theorem e_mod (ha : PEM X g W a ma) (hb : PEM X g W b mb) : PEM X g W (.BinOp a .Mod b pos) (eBin modD ma mb) := e_bin op_mod ok_mod ha hb
theorem e_pow (ha : PEM X g W a ma) (hb : PEM X g W b mb) : PEM X g W (.BinOp a .Pow b pos) (eBin powD ma mb) := e_bin op_pow ok_pow ha hb
theorem ok_neg {K : PySem.W.Frag} : UnOk K (rU fun i => .int (-i)) negD := fun bx H0 H x dx rz Q sub rx e k => by
  unfold negD at e
  split at e
  · cases e; cases rx; exact ⟨_, rfl, k.val sub .int⟩
  · cases e
theorem e_neg (ha : PEM X g W a ma) : PEM X g W (.UnaryOp .USub a pos) (eUn negD ma) := PE.imp (pe_un un_neg ha.d) fun _ _ _ => un_tE ok_neg

/-! ### comparisons -/
structure Cmp (X : Cx) (op : CmpOp) (f : D → D → Option RV) : Prop where
  ex : ∃ r, OpR X (compareOp op) r ∧ OpOk X.K r f
theorem c_lt : Cmp X .Lt ltD := ⟨_, op_lt, ok_cmp⟩
theorem c_le : Cmp X .LtE leD := ⟨_, op_le, ok_cmp⟩
theorem c_gt : Cmp X .Gt gtD := ⟨_, op_gt, ok_cmp⟩
theorem c_ge : Cmp X .GtE geD := ⟨_, op_ge, ok_cmp⟩
theorem c_eq (hu : X.A.units + 64 < cLine) : Cmp X .Eq eqD := ⟨_, op_eqD hu, ok_eq⟩
theorem c_ne (hu : X.A.units + 64 < cLine) : Cmp X .NotEq neD := ⟨_, op_neD hu, ok_ne⟩
def tstB (m : M β RV) : M β Bool := mbind m fun r => opt (asB r.d)
theorem res_bl {K : PySem.W.Frag} {g : G β} {H0 H : Hp} {v : V} {r : RV} {b : Bool} (h : ResR K g H0 H v r) (e : r.d = .bl b) : v = .bl b := by
  cases r with
  | v d =>
    have e : d = .bl b := e
    subst e
    cases h; rfl
  | o ds => cases e
theorem tst_tE {K : PySem.W.Frag} {mg : Str → Option Value} {H : Hp} {σ : L2.St} {Q : Bool → Hp → Prop} (h : tT' K mg g W (tstB m) σ H Q) : tE K mg g W m σ H fun x H' => ∃ k, x = .bl k ∧ Q k H' := by
  obtain ⟨H0, s, R, h⟩ := h
  unfold tstB at h
  rw [on_bind] at h
  refine ⟨H0, s, R, Out.on_imp h (fun r s1 h v H1 H2 e R1 rr ap => ?_) fun _ _ q => q⟩
  rw [on_opt] at h
  obtain ⟨b, eb, h⟩ := h
  exact ⟨b, res_bl rr (asB_eq eb), h H1 H2 e R1⟩
theorem e_cmp (hc : Cmp X op f) (ha : PEM X g W a ma) (hb : PEM X g W b mb) (hm : behindInMarks op b = false := by first | exact nomark _ | rfl) : PEM X g W (.Compare a [op] [b] pos) (eBin f ma mb) := by
  obtain ⟨r, ho, ok⟩ := hc.ex
  exact PE.imp (pe_cmpR ho ha.d hb.d hm) fun _ _ _ => bin_tE ok
theorem t_cmp (hc : Cmp X op f) (ha : PEM X g W a ma) (hb : PEM X g W b mb) (hm : behindInMarks op b = false := by first | exact nomark _ | rfl) : PTM X g W (.Compare a [op] [b] pos) (tstB (eBin f ma mb)) := by
  obtain ⟨r, ho, ok⟩ := hc.ex
  exact PT.imp (pt_cmpR ho ha.d hb.d hm) fun _ _ _ h => bin_tE ok (tst_tE h)
theorem is_tE {K : PySem.W.Frag} {mg : Str → Option Value} {H : Hp} {σ : L2.St} {Q : VK} {p : Bool → Bool} {f : D → Option RV} (hf : ∀ d rz, f d = some rz → ∀ (v : V) (bx : Addr) (H : Hp), Rep K bx H v d → rz = .v (.bl (p (decide (v = .non))))) (h : tE K mg g W (eUn f m) σ H Q) : tD K mg g W m σ H fun x H1 => Q (.bl (p (decide (x = .non)))) H1 := by
  obtain ⟨H0, s, R, h⟩ := h
  unfold eUn at h
  rw [on_bind] at h
  refine ⟨H0, s, R, Out.on_imp h (fun r s1 h v H1 H2 e R1 rr => ?_) fun _ _ q => q⟩
  rw [on_opt] at h
  obtain ⟨rz, ez, h⟩ := h
  have := hf _ _ ez v _ _ rr
  subst this
  exact h _ H1 H2 e R1 .bl trivial
theorem isN_ok {K : PySem.W.Frag} (d : D) (rz : RV) (h : isND d = some rz) (v : V) (bx : Addr) (H : Hp) (r : Rep K bx H v d) : rz = .v (.bl (id (decide (v = .non)))) := by
  cases r <;> (unfold isND at h; cases h; simp)
theorem notN_ok {K : PySem.W.Frag} (d : D) (rz : RV) (h : notND d = some rz) (v : V) (bx : Addr) (H : Hp) (r : Rep K bx H v d) : rz = .v (.bl (!(decide (v = .non)))) := by
  cases r <;> (unfold notND at h; cases h; simp)
theorem e_isN {j pos'} (ha : PEM X g W a ma) : PEM X g W (.Compare a [.Is] [.Constant .none j pos'] pos) (eUn isND ma) := PE.imp (pe_cmp (pc_isN ha.d)) fun _ _ _ h => is_tE (p := id) isN_ok h
theorem e_notN {j pos'} (ha : PEM X g W a ma) : PEM X g W (.Compare a [.IsNot] [.Constant .none j pos'] pos) (eUn notND ma) := PE.imp (pe_cmp (pc_notN ha.d)) fun _ _ _ h => is_tE (p := not) notN_ok h
theorem t_isN {j pos'} (ha : PEM X g W a ma) : PTM X g W (.Compare a [.Is] [.Constant .none j pos'] pos) (tstB (eUn isND ma)) := PT.imp (pt_cmp (pc_isN ha.d)) fun _ _ _ h => is_tE (p := id) isN_ok (tst_tE h)
theorem t_notN {j pos'} (ha : PEM X g W a ma) : PTM X g W (.Compare a [.IsNot] [.Constant .none j pos'] pos) (tstB (eUn notND ma)) := PT.imp (pt_cmp (pc_notN ha.d)) fun _ _ _ h => is_tE (p := not) notN_ok (tst_tE h)
/-- a op b op' c -/
def eChain (f f' : D → D → Option RV) (ma mb mc : M β RV) : M β RV := mbind ma fun x => mbind mb fun y => mbind (opt (f x.d y.d)) fun z => mbind (opt (asB z.d)) fun k => mIte k (mbind mc fun w => opt (f' y.d w.d)) (mret (.v (.bl false)))
theorem chain_tE {K : PySem.W.Frag} {mg : Str → Option Value} {H : Hp} {σ : L2.St} {Q : VK} (ok : OpOk K r f) (ok' : OpOk K r' f') (h : tE K mg g W (eChain f f' ma mb mc) σ H Q) : tChain r r' (tD K mg g W ma) (tD K mg g W mb) (tD K mg g W mc) σ H Q := by
  obtain ⟨H0, s, R, h⟩ := h
  unfold eChain at h
  rw [on_bind] at h
  refine ⟨H0, s, R, Out.on_imp h (fun x s1 h v H1 Hr1 e1 R1 r1 => ?_) fun _ _ q => q⟩
  rw [on_bind] at h
  refine ⟨H1, s1, R1, Out.on_imp h (fun y s2 h u H2 Hr2 e2 R2 r2 => ?_) fun _ _ q => q.back e1⟩
  rw [on_bind, on_opt] at h
  obtain ⟨rz, ez, h⟩ := h
  rw [on_bind, on_opt] at h
  obtain ⟨k, ek, h⟩ := h
  refine ok g.bx H2 Hr2 v u x.d y.d rz _ R2.r0.sub (r1.mono e2) r2 ez (fin_of2 R2 fun z H3 Hr3 e3 R3 rr ap => ⟨k, res_bl rr (asB_eq ek), ?_⟩)
  cases k with
  | true =>
    rw [if_pos rfl]
    have h : (mbind mc (fun w => opt (f' y.d w.d)) s2).on _ _ := h
    rw [on_bind] at h
    refine ⟨H3, s2, R3, Out.on_imp h (fun w s3 h w' H4 Hr4 e4 R4 r4 => ?_) fun _ _ q => q.back ((e1.trans e2).trans e3)⟩
    rw [on_opt] at h
    obtain ⟨rz', ez', h⟩ := h
    exact ok' g.bx H4 Hr4 u w' y.d w.d rz' _ R4.r0.sub (r2.mono (e3.trans e4)) r4 ez' (fin_of R4 (((e1.trans e2).trans e3).trans e4) h)
  | false =>
    rw [if_neg Bool.false_ne_true]
    exact h _ H3 Hr3 ((e1.trans e2).trans e3) R3 .bl trivial
theorem e_chain {op op' : CmpOp} (h1 : Cmp X op f) (h2 : Cmp X op' f') (ha : PEM X g W a ma) (hb : PEM X g W b mb) (hc : PEM X g W c mc) (hm : lastMarks [op, op'] [b, c] = false := by with_unfolding_all rfl) : PEM X g W (.Compare a [op, op'] [b, c] pos) (eChain f f' ma mb mc) := by
  obtain ⟨r, ho, ok⟩ := h1.ex
  obtain ⟨r', ho', ok'⟩ := h2.ex
  exact PE.imp (pe_chain ho ho' ha.d hb.d hc.d hm) fun _ _ _ => chain_tE ok ok'
theorem t_chain {op op' : CmpOp} (h1 : Cmp X op f) (h2 : Cmp X op' f') (ha : PEM X g W a ma) (hb : PEM X g W b mb) (hc : PEM X g W c mc) (hm : lastMarks [op, op'] [b, c] = false := by with_unfolding_all rfl) : PTM X g W (.Compare a [op, op'] [b, c] pos) (tstB (eChain f f' ma mb mc)) := by
  obtain ⟨r, ho, ok⟩ := h1.ex
  obtain ⟨r', ho', ok'⟩ := h2.ex
  exact PT.imp (pt_chain ho ho' ha.d hb.d hc.d hm) fun _ _ _ h => chain_tE ok ok' (tst_tE h)
end
end DL

set_option Elab.async false
set_option linter.all false
set_option maxRecDepth 100000
namespace DL
open PySem PySem.Spec L2
/-! ### operands: frozen values, or a name's list looked at -/
inductive Arg where
  | v (d : D) | b (i : Nat)
def slotC : Slot → Option D
  | .no => none
  | .v d => some d
  | .o ds => some (.lst ds)
def resL (sl : List Slot) : List Arg → Option (List D)
  | [] => some []
  | .v d :: as => (resL sl as).map (d :: ·)
  | .b i :: as => match (sl[i]?).bind slotC, resL sl as with
    | some d, some ds => some (d :: ds)
    | _, _ => none
def isV : Arg → Bool
  | .v _ => true
  | .b _ => false
def noB (as : List Arg) : Bool := as.all isV
def scalD : D → Bool
  | .non | .bl _ | .int _ | .str _ => true
  | _ => false
def scalR : RV → Bool
  | .v d => scalD d
  | .o _ => false
def okR (as : List Arg) (r : RV) : Bool := noB as || scalR r
section
variable {β : Type}
def rsl (as : List Arg) : M β (List D) := fun s => match resL s.sl as with
  | some ds => .ok ds s
  | none => .bad
def argV (m : M β RV) : M β Arg := mbind m fun r => mret (.v r.d)
def argN (i : Nat) : M β Arg := fun s => match (s.sl[i]?).bind slotC with
  | some _ => .ok (.b i) s
  | none => .bad
def argC (m : M β Arg) (ms : M β (List Arg)) : M β (List Arg) := mbind m fun a => mbind ms fun as => mret (a :: as)
def lstC (m : M β RV) (ms : M β (List D)) : M β (List D) := mbind m fun r => mbind ms fun ds => mret (r.d :: ds)
theorem on_rsl {as : List Arg} {s : S β} {k : List D → S β → Prop} {e : Exc → S β → Prop} : (rsl as s).on k e ↔ ∃ ds, resL s.sl as = some ds ∧ k ds s := by
  unfold rsl
  cases resL s.sl as with
  | none => exact ⟨fun h => False.elim h, fun ⟨_, h, _⟩ => nomatch h⟩
  | some a => exact ⟨fun h => ⟨a, rfl, h⟩, fun ⟨b, h, q⟩ => by cases h; exact q⟩
end
def ArgR {β : Type} (K : PySem.W.Frag) (g : G β) (H0 : Hp) (σ : L2.St) (v : V) : Arg → Prop
  | .v d => Rep K g.bx H0 v d
  | .b i => σ[i]? = some (some v)
inductive ArgsR {β : Type} (K : PySem.W.Frag) (g : G β) (H0 : Hp) (σ : L2.St) : List V → List Arg → Prop
  | nil : ArgsR K g H0 σ [] []
  | cons {v a vs as} : ArgR K g H0 σ v a → ArgsR K g H0 σ vs as → ArgsR K g H0 σ (v :: vs) (a :: as)
def tB' {β : Type} (K : PySem.W.Frag) (mg : Str → Option Value) (g : G β) (W : WX) (m : M β Arg) : TE := fun σ H Q => ∃ H0 s, Rel K g H0 σ H s ∧ (m s).on
  (fun a s' => ∀ v H0' H', Ex H0 H0' → Rel K g H0' σ H' s' → ArgR K g H0' σ v a → Q v H') (Esc K mg g W H0 σ)
def tAB {β : Type} (K : PySem.W.Frag) (mg : Str → Option Value) (g : G β) (W : WX) (m : M β (List Arg)) : TA := fun σ H Q => ∃ H0 s, Rel K g H0 σ H s ∧ (m s).on
  (fun as s' => ∀ vs H0' H', Ex H0 H0' → Rel K g H0' σ H' s' → ArgsR K g H0' σ vs as → Q vs H') (Esc K mg g W H0 σ)
abbrev PBM {β : Type} (X : Cx) (g : G β) (W : WX) (e : Expr) (m : M β Arg) : Prop := PE X e (tB' X.K X.mg g W m)
abbrev PABM {β : Type} (X : Cx) (g : G β) (W : WX) (es : List Expr) (m : M β (List Arg)) : Prop := PA X es (tAB X.K X.mg g W m)
section
variable {β : Type} {K : PySem.W.Frag} {g : G β} {H0 H H0' H' : Hp} {σ : L2.St} {s : S β} {v : V} {vs : List V} {a : Arg} {as : List Arg}
theorem ArgR.mono (h : ArgR K g H0 σ v a) (e : Ex H0 H0') : ArgR K g H0' σ v a := by
  cases a with
  | v d => exact Rep.mono h e
  | b i => exact h
theorem ArgsR.mono (h : ArgsR K g H0 σ vs as) (e : Ex H0 H0') : ArgsR K g H0' σ vs as := by
  induction h with
  | nil => exact .nil
  | cons r _ ih => exact .cons (r.mono e) ih
def Owned (σ : L2.St) (sl : List Slot) (a : Addr) : Prop := ∃ (i : Nat) (ds : List D), sl[i]? = some (.o ds) ∧ σ[i]? = some (some (.ref a))
open Classical in
/-- the frozen heap and the slots' own lists -/
noncomputable def view (σ : L2.St) (sl : List Slot) (H0 H : Hp) : Hp := fun a => if Owned σ sl a then H a else H0 a
theorem view_own {a : Addr} (h : Owned σ s.sl a) : view σ s.sl H0 H a = H a := by unfold view; rw [if_pos h]
theorem view_not {a : Addr} (h : ¬ Owned σ s.sl a) : view σ s.sl H0 H a = H0 a := by unfold view; rw [if_neg h]
theorem Rel.own (R : Rel K g H0 σ H s) {a : Addr} (h : Owned σ s.sl a) : ∃ vs, H a = some (.lst vs) ∧ H0 a = none ∧ g.F a = none ∧ a ≠ g.bx := by
  obtain ⟨i, ds, h1, h2⟩ := h
  obtain ⟨p, vs, e1, e2, _, n0, nF, nb⟩ := R.slot i _ _ h1 h2
  cases e1
  exact ⟨vs, e2, n0, nF, nb⟩
theorem Rel.view_ex (R : Rel K g H0 σ H s) : Ex H0 (view σ s.sl H0 H) := fun a o e => by
  by_cases h : Owned σ s.sl a
  · obtain ⟨vs, _, n0, _⟩ := R.own h
    rw [n0] at e; cases e
  · rw [view_not h]; exact e
theorem Rel.view_sub (R : Rel K g H0 σ H s) : Ex (view σ s.sl H0 H) H := fun a o e => by
  by_cases h : Owned σ s.sl a
  · rw [view_own h] at e; exact e
  · rw [view_not h] at e; exact R.r0.sub a o e
theorem Rel.slotC_view (R : Rel K g H0 σ H s) {i : Nat} {d : D} (h : (s.sl[i]?).bind slotC = some d) (hv : σ[i]? = some (some v)) : Rep K g.bx (view σ s.sl H0 H) v d := by
  cases hs : s.sl[i]? with
  | none => rw [hs] at h; cases h
  | some k =>
    rw [hs] at h
    have sr := R.slot i k _ hs hv
    cases k with
    | no => cases h
    | v d' =>
      obtain ⟨y, e1, r⟩ := sr
      cases e1; cases h
      exact r.mono R.view_ex
    | o ds =>
      obtain ⟨p, vs, e1, e2, rs, _⟩ := sr
      cases e1; cases h
      exact .lstR (by rw [view_own ⟨i, ds, hs, hv⟩]; exact e2) (rs.mono R.view_ex)
theorem Rel.slot_at (R : Rel K g H0 σ H s) {i : Nat} {d : D} (h : (s.sl[i]?).bind slotC = some d) : ∃ v, σ[i]? = some (some v) := by
  cases hs : s.sl[i]? with
  | none => rw [hs] at h; cases h
  | some k =>
    rw [hs] at h
    have hi : i < σ.length := by
      rw [← R.len]; exact (List.getElem?_eq_some_iff.mp hs).1
    have sr := R.slot i k σ[i] hs (by simp [hi])
    cases k with
    | no => cases h
    | v d' => obtain ⟨y, e1, r⟩ := sr; exact ⟨y, by simp [hi, e1]⟩
    | o ds => obtain ⟨p, vs, e1, _⟩ := sr; exact ⟨_, by simp [hi, e1]; rfl⟩
theorem Rel.res_view (R : Rel K g H0 σ H s) (h : ArgsR K g H0 σ vs as) : ∀ {ds : List D}, resL s.sl as = some ds → Reps K g.bx (view σ s.sl H0 H) vs ds := by
  induction h with
  | nil => intro ds e; cases e; exact .nil
  | @cons v a vs as r _ ih =>
    intro ds e
    cases a with
    | v d =>
      simp only [resL, Option.map_eq_some_iff] at e
      obtain ⟨es, e1, rfl⟩ := e
      exact .cons (Rep.mono r R.view_ex) (ih e1)
    | b i =>
      simp only [resL] at e
      cases h1 : (s.sl[i]?).bind slotC with
      | none => rw [h1] at e; cases e
      | some d =>
        cases h2 : resL s.sl as with
        | none => rw [h1, h2] at e; cases e
        | some es =>
          rw [h1, h2] at e; cases e
          exact .cons (R.slotC_view h1 r) (ih h2)
theorem res_plain (h : ArgsR K g H0 σ vs as) : ∀ {ds : List D} {sl : List Slot}, noB as = true → resL sl as = some ds → Reps K g.bx H0 vs ds := by
  induction h with
  | nil => intro ds sl _ e; cases e; exact .nil
  | @cons v a vs as r _ ih =>
    intro ds sl hb e
    cases a with
    | v d =>
      simp only [resL, Option.map_eq_some_iff] at e
      obtain ⟨es, e1, rfl⟩ := e
      exact .cons r (ih (by simpa [noB, isV] using hb) e1)
    | b i => simp [noB, isV] at hb
theorem scal_rep {K : PySem.W.Frag} {bx : Addr} {H H' : Hp} {v : V} {d : D} (h : scalD d = true) (r : Rep K bx H v d) : Rep K bx H' v d := by
  cases r <;> first | exact .non | exact .bl | exact .int | exact .str | (simp [scalD] at h)
theorem Fin.scal {bx : Addr} {Q : VK} {r : RV} (f : Fin K bx H0 H r Q) (hr : scalR r = true) (h0 : Ex H0 H) : Fin K bx H0' H r Q := fun v H1 H2 gr nw => by
  cases r with
  | o ds => cases hr
  | v d => exact f v H0 H2 ⟨Ex.refl _, gr.e, h0.trans gr.e, fun a o e => .inl e⟩ (scal_rep hr nw)
/-- an operation on what the operands show -/
theorem Rel.use {r : RV} {Q : VK} {P : Prop} (R : Rel K g H0 σ H s) (h : ArgsR K g H0 σ vs as) {ds : List D} (e : resL s.sl as = some ds) (ok : okR as r = true) (f : Fin K g.bx H0 H r Q)
    (go : ∀ Hv, Ex Hv H → Reps K g.bx Hv vs ds → Fin K g.bx Hv H r Q → P) : P := by
  cases hb : noB as with
  | true => exact go H0 R.r0.sub (res_plain h hb e) f
  | false =>
    have hs : scalR r = true := by
      unfold okR at ok
      rw [hb] at ok
      exact ok
    exact go _ R.view_sub (R.res_view h e) (f.scal hs R.r0.sub)
end
section
variable {β : Type} {X : Cx} {g : G β} {W : WX} {a b c e : Expr} {es : List Expr} {m : M β RV} {ma mb : M β Arg} {ms : M β (List Arg)} {ls : M β (List D)} {pos : Pos} {op : CmpOp} {r r' : R2} {f f' : D → D → Option RV}
theorem b_e (h : PEM X g W a m) : PBM X g W a (argV m) := PE.imp h.d fun σ H Q ⟨H0, s, R, q⟩ => by
  unfold argV at q
  rw [on_bind] at q
  exact ⟨H0, s, R, Out.on_imp q (fun r s1 q v H1 H2 e R1 rr => q v H1 H2 e R1 rr) fun _ _ q => q⟩
theorem b_n (i : Nat) {x : Str} (hN : X.N[i]? = some x := by rfl) (hv : Vis X.env.scope x := by first | exact Or.inl rfl | exact Or.inr (Or.inl rfl) | exact Or.inr (Or.inr rfl)) (hd : (x == ("__debug__" : Str)) = false := by decide)
    (hcd : (x == ("__classdict__" : Str)) = false := by decide) : PBM X g W (.Name x pos) (argN i) := PE.imp (pe_var hN hv hd hcd) fun σ H Q ⟨H0, s, R, q⟩ => by
  unfold argN at q
  cases h : (s.sl[i]?).bind slotC with
  | none => rw [h] at q; exact q.elim
  | some d =>
    rw [h] at q
    obtain ⟨v, hv⟩ := R.slot_at h
    exact ⟨v, hv, q v H0 H (Ex.refl _) R hv⟩
theorem a_nil : PABM X g W [] (mret []) := PA.imp pa_nil fun σ H Q ⟨H0, s, R, q⟩ => q [] H0 H (Ex.refl _) R .nil
theorem a_cons (ha : PBM X g W e ma) (hr : PABM X g W es ms) (hs : starEach (e :: es) X.env = (false, eval e X.env) :: starEach es X.env := by rfl) : PABM X g W (e :: es) (argC ma ms) := PA.imp (pa_cons ha hr hs) fun σ H Q ⟨H0, s, R, q⟩ => by
  unfold argC at q
  rw [on_bind] at q
  refine ⟨H0, s, R, Out.on_imp q (fun a s1 q v H1 H2 e1 R1 rr => ?_) fun _ _ q => q⟩
  rw [on_bind] at q
  exact ⟨H1, s1, R1, Out.on_imp q (fun as s2 q vs H3 H4 e2 R2 rs => q (v :: vs) H3 H4 (e1.trans e2) R2 (.cons (rr.mono e2) rs)) fun _ _ q => q.back e1⟩
theorem l_nil : PAM X g W [] (mret []) := PA.imp pa_nil fun σ H Q ⟨H0, s, R, q⟩ => q [] H0 H (Ex.refl _) R .nil
theorem l_cons (ha : PEM X g W e m) (hr : PAM X g W es ls) (hs : starEach (e :: es) X.env = (false, eval e X.env) :: starEach es X.env := by rfl) : PAM X g W (e :: es) (lstC m ls) := PA.imp (pa_cons ha.d hr hs) fun σ H Q ⟨H0, s, R, q⟩ => by
  unfold lstC at q
  rw [on_bind] at q
  refine ⟨H0, s, R, Out.on_imp q (fun a s1 q v H1 H2 e1 R1 rr => ?_) fun _ _ q => q⟩
  rw [on_bind] at q
  exact ⟨H1, s1, R1, Out.on_imp q (fun as s2 q vs H3 H4 e2 R2 rs => q (v :: vs) H3 H4 (e1.trans e2) R2 (.cons (rr.mono e2) rs)) fun _ _ q => q.back e1⟩
/-! ### displays -/
def tupD (ds : List D) : Option RV := if ds.length ≤ sizeLine then some (.v (.tup ds)) else none
def lstD (ds : List D) : Option RV := if ds.length ≤ sizeLine then some (.o ds) else none
theorem ok_tup {K : PySem.W.Frag} : CallOk K (fun xs H Q => xs.length ≤ sizeLine ∧ ∀ p, H p = none → Q (.ref p) (upd H p (.tup xs))) tupD := fun bx H0 H xs dxs rz Q sub rs e k => by
  unfold tupD at e
  split at e
  · rename_i h
    cases e
    exact ⟨by rw [rs.len]; exact h, fun p hp => k.tup sub rs hp⟩
  · cases e
theorem ok_lst {K : PySem.W.Frag} : CallOk K (fun xs H Q => xs.length ≤ sizeLine ∧ ∀ p, H p = none → Q (.ref p) (upd H p (.lst xs))) lstD := fun bx H0 H xs dxs rz Q sub rs e k => by
  unfold lstD at e
  split at e
  · rename_i h
    cases e
    exact ⟨by rw [rs.len]; exact h, fun p hp => k.lst sub rs hp⟩
  · cases e
theorem e_tup {x1} (h : PAM X g W es ls) : PEM X g W (.Tuple es x1 pos) (eApp tupD ls) := PE.imp (pe_tup h) fun _ _ _ => app_tE ok_tup
theorem e_lst (h : PAM X g W es ls) : PEM X g W (.List es pos) (eApp lstD ls) := PE.imp (pe_lst h) fun _ _ _ => app_tE ok_lst
/-! ### comparisons of operands -/
def ap2 (f : D → D → Option RV) : List D → Option RV
  | [d, e] => f d e
  | _ => none
def ap1 (f : D → Option RV) : List D → Option RV
  | [d] => f d
  | _ => none
def eBinB (f : D → D → Option RV) (ma mb : M β Arg) : M β RV := mbind ma fun x => mbind mb fun y => mbind (rsl [x, y]) fun ds => opt ((ap2 f ds).filter (okR [x, y]))
def eAppB (f : List D → Option RV) (ms : M β (List Arg)) : M β RV := mbind ms fun as => mbind (rsl as) fun ds => opt ((f ds).filter (okR as))
theorem binB_tE {K : PySem.W.Frag} {mg : Str → Option Value} {H : Hp} {σ : L2.St} {Q : VK} (ok : OpOk K r f) (h : tE K mg g W (eBinB f ma mb) σ H Q) : tOp r (tB' K mg g W ma) (tB' K mg g W mb) σ H Q := by
  obtain ⟨H0, s, R, h⟩ := h
  unfold eBinB at h
  rw [on_bind] at h
  refine ⟨H0, s, R, Out.on_imp h (fun x s1 h v H1 Hr1 e1 R1 r1 => ?_) fun _ _ q => q⟩
  rw [on_bind] at h
  refine ⟨H1, s1, R1, Out.on_imp h (fun y s2 h u H2 Hr2 e2 R2 r2 => ?_) fun _ _ q => q.back e1⟩
  rw [on_bind, on_rsl] at h
  obtain ⟨ds, eds, h⟩ := h
  rw [on_opt] at h
  obtain ⟨rz, ez, h⟩ := h
  rw [Option.filter_eq_some_iff] at ez
  obtain ⟨ez, ho⟩ := ez
  refine R2.use (.cons (r1.mono e2) (.cons r2 .nil)) eds ho (fin_of R2 (e1.trans e2) h) fun Hv sub rs k => ?_
  match ds, rs, ez with
  | [d, e], rs, ez =>
    obtain ⟨v', u', eq, rv, ru⟩ := rs.cases2
    cases eq
    exact ok g.bx Hv Hr2 v u d e rz Q sub rv ru ez k
  | [], _, ez => cases ez
  | [_], _, ez => cases ez
  | _ :: _ :: _ :: _, _, ez => cases ez
theorem appB_tE {K : PySem.W.Frag} {mg : Str → Option Value} {H : Hp} {σ : L2.St} {Q : VK} {r : List V → Hp → VK → Prop} {f : List D → Option RV} (ok : CallOk K r f) (h : tE K mg g W (eAppB f ms) σ H Q) : tCB r (tAB K mg g W ms) σ H Q := by
  obtain ⟨H0, s, R, h⟩ := h
  unfold eAppB at h
  rw [on_bind] at h
  refine ⟨H0, s, R, Out.on_imp h (fun x s1 h vs H1 Hr1 e1 R1 r1 => ?_) fun _ _ q => q⟩
  rw [on_bind, on_rsl] at h
  obtain ⟨ds, eds, h⟩ := h
  rw [on_opt] at h
  obtain ⟨rz, ez, h⟩ := h
  rw [Option.filter_eq_some_iff] at ez
  obtain ⟨ez, ho⟩ := ez
  exact R1.use r1 eds ho (fin_of R1 e1 h) fun Hv sub rs k => ok g.bx Hv Hr1 vs ds rz Q sub rs ez k
theorem e_cmpB (hc : Cmp X op f) (ha : PBM X g W a ma) (hb : PBM X g W b mb) (hm : behindInMarks op b = false := by first | exact nomark _ | rfl) : PEM X g W (.Compare a [op] [b] pos) (eBinB f ma mb) := by
  obtain ⟨r, ho, ok⟩ := hc.ex
  exact PE.imp (pe_cmpR ho ha hb hm) fun _ _ _ => binB_tE ok
theorem t_cmpB (hc : Cmp X op f) (ha : PBM X g W a ma) (hb : PBM X g W b mb) (hm : behindInMarks op b = false := by first | exact nomark _ | rfl) : PTM X g W (.Compare a [op] [b] pos) (tstB (eBinB f ma mb)) := by
  obtain ⟨r, ho, ok⟩ := hc.ex
  exact PT.imp (pt_cmpR ho ha hb hm) fun _ _ _ h => binB_tE ok (tst_tE h)
/-! ### truth -/
def truD : D → Option Bool
  | .non => some false
  | .bl b => some b
  | .int i => some (i != 0)
  | .str y => if y.length ≤ sizeLine then some ((y.length : Int) != 0) else none
  | .tup xs => some !xs.isEmpty
  | .lst xs => some !xs.isEmpty
  | .box => none
  | .dct _ => none
  | .exc _ _ => none
  | .ins _ _ => none
theorem isEmpty_len {α γ : Type} {xs : List α} {ys : List γ} (h : xs.length = ys.length) : xs.isEmpty = ys.isEmpty := by
  cases xs <;> cases ys <;> simp_all
theorem tru_ok' {K : PySem.W.Frag} {bx : Addr} {Hv H : Hp} {v : V} {d : D} {k : Bool} (r : Rep K bx Hv v d) (sub : Ex Hv H) (h : truD d = some k) : TruV K v H k := by
  cases r with
  | non => cases h; rfl
  | bl => cases h; rfl
  | int => cases h; rfl
  | str =>
    rename_i z
    have h : (if z.length ≤ sizeLine then some ((z.length : Int) != 0) else none) = some k := h
    split at h
    · rename_i hl; cases h; exact ⟨hl, rfl⟩
    · cases h
  | tup hx l _ => cases h; exact .inr (.inl ⟨_, sub.t hx, by rw [isEmpty_len l]⟩)
  | lst hx l _ => cases h; exact .inl ⟨_, .of (sub _ _ hx), by rw [isEmpty_len l]⟩
  | box => cases h
  | dct => cases h
  | exc => cases h
  | ins => cases h
def truM (ma : M β Arg) : M β Bool := mbind ma fun x => mbind (rsl [x]) fun ds => opt (match ds with | [d] => truD d | _ => none)
theorem t_tru (ha : PBM X g W a ma) (he : ∀ whole, isTrue a X.env whole = (do let v ← whole; standAt a.pos; holding [v] (truthy v)) := by intro _; rfl) : PTM X g W a (truM ma) := PT.imp (pt_truth ha he) fun σ H Q ⟨H0, s, R, q⟩ => by
  unfold truM at q
  rw [on_bind] at q
  refine ⟨H0, s, R, Out.on_imp q (fun x s1 h v H1 H2 e R1 rr => ?_) fun _ _ q => q⟩
  rw [on_bind, on_rsl] at h
  obtain ⟨ds, eds, h⟩ := h
  rw [on_opt] at h
  obtain ⟨k, ek, h⟩ := h
  have rs := R1.res_view (.cons rr .nil) eds
  match ds, rs, ek with
  | [d], rs, ek =>
    obtain ⟨v', eq, rv⟩ := rs.cases1
    cases eq
    exact ⟨k, tru_ok' rv R1.view_sub ek, h H1 H2 e R1⟩
  | [], _, ek => cases ek
  | _ :: _ :: _, _, ek => cases ek
/-! ### and, or, not, if -/
variable {m1 m2 : M β RV} {c1 c2 : M β Bool} {rest : List Expr}
def tAndM (c1 c2 : M β Bool) : M β Bool := mbind c1 fun k => mIte k c2 (mret false)
def tOrM (c1 c2 : M β Bool) : M β Bool := mbind c1 fun k => mIte k (mret true) c2
def tNotM (c1 : M β Bool) : M β Bool := mbind c1 fun k => mret (!k)
def eAndM (m1 m2 : M β RV) : M β RV := mbind m1 fun r => mbind (opt (asB r.d)) fun k => mIte k m2 (mret (.v (.bl false)))
def eOrM (m1 m2 : M β RV) : M β RV := mbind m1 fun r => mbind (opt (asB r.d)) fun k => mIte k (mret (.v (.bl true))) m2
def eNotM (m1 : M β RV) : M β RV := mbind m1 fun r => mbind (opt (asB r.d)) fun k => mret (.v (.bl (!k)))
def eIfM (c : M β Bool) (m1 m2 : M β RV) : M β RV := mbind c fun k => mIte k m1 m2
theorem w_and1 (ha : PTM X g W a c1) : PWM X g W (.BoolOp .And [a] pos) c1 := pw_and1 ha
theorem w_or1 (ha : PTM X g W a c1) : PWM X g W (.BoolOp .Or [a] pos) c1 := pw_or1 ha
theorem w_and (ha : PTM X g W a c1) (hb : PWM X g W (.BoolOp .And (b :: rest) pos) c2) : PWM X g W (.BoolOp .And (a :: b :: rest) pos) (tAndM c1 c2) := PW.imp (pw_and ha hb) fun σ H Q ⟨H0, s, R, q⟩ => by
  unfold tAndM at q
  rw [on_bind] at q
  refine ⟨H0, s, R, Out.on_imp q (fun k s1 h H1 H2 e R1 => ?_) fun _ _ q => q⟩
  cases k with
  | true =>
    rw [if_pos rfl]
    exact ⟨H1, s1, R1, Out.on_imp (show (c2 s1).on _ _ from h) (fun k s2 h H3 H4 e2 R2 => h H3 H4 (e.trans e2) R2) fun _ _ q => q.back e⟩
  | false =>
    rw [if_neg Bool.false_ne_true]
    exact h H1 H2 e R1
theorem w_or (ha : PTM X g W a c1) (hb : PWM X g W (.BoolOp .Or (b :: rest) pos) c2) : PWM X g W (.BoolOp .Or (a :: b :: rest) pos) (tOrM c1 c2) := PW.imp (pw_or ha hb) fun σ H Q ⟨H0, s, R, q⟩ => by
  unfold tOrM at q
  rw [on_bind] at q
  refine ⟨H0, s, R, Out.on_imp q (fun k s1 h H1 H2 e R1 => ?_) fun _ _ q => q⟩
  cases k with
  | false =>
    rw [if_neg Bool.false_ne_true]
    exact ⟨H1, s1, R1, Out.on_imp (show (c2 s1).on _ _ from h) (fun k s2 h H3 H4 e2 R2 => h H3 H4 (e.trans e2) R2) fun _ _ q => q.back e⟩
  | true =>
    rw [if_pos rfl]
    exact h H1 H2 e R1
theorem t_w (h : PWM X g W a c1) : PTM X g W a c1 := PW.pt h
theorem t_not (ha : PTM X g W a c1) : PTM X g W (.UnaryOp .Not a pos) (tNotM c1) := PT.imp (pt_not ha) fun σ H Q ⟨H0, s, R, q⟩ => by
  unfold tNotM at q
  rw [on_bind] at q
  exact ⟨H0, s, R, q⟩
theorem e_one {op} (h : PEM X g W a m1) : PEM X g W (.BoolOp op [a] pos) m1 := pe_one h
theorem e_and (ha : PEM X g W a m1) (hb : PEM X g W (.BoolOp .And (b :: rest) pos) m2) : PEM X g W (.BoolOp .And (a :: b :: rest) pos) (eAndM m1 m2) := PE.imp (pe_and ha hb) fun σ H Q ⟨H0, s, R, q⟩ => by
  unfold eAndM at q
  rw [on_bind] at q
  refine ⟨H0, s, R, Out.on_imp q (fun r s1 h v H1 H2 e R1 rr ap => ?_) fun _ _ q => q⟩
  rw [on_bind, on_opt] at h
  obtain ⟨k, ek, h⟩ := h
  refine ⟨k, res_bl rr (asB_eq ek), ?_⟩
  cases k with
  | true =>
    rw [if_pos rfl]
    exact ⟨H1, s1, R1, Out.on_imp (show (m2 s1).on _ _ from h) (fun k s2 h v H3 H4 e2 R2 => h v H3 H4 (e.trans e2) R2) fun _ _ q => q.back e⟩
  | false =>
    rw [if_neg Bool.false_ne_true]
    exact h _ H1 H2 e R1 .bl trivial
theorem e_or (ha : PEM X g W a m1) (hb : PEM X g W (.BoolOp .Or (b :: rest) pos) m2) : PEM X g W (.BoolOp .Or (a :: b :: rest) pos) (eOrM m1 m2) := PE.imp (pe_or ha hb) fun σ H Q ⟨H0, s, R, q⟩ => by
  unfold eOrM at q
  rw [on_bind] at q
  refine ⟨H0, s, R, Out.on_imp q (fun r s1 h v H1 H2 e R1 rr ap => ?_) fun _ _ q => q⟩
  rw [on_bind, on_opt] at h
  obtain ⟨k, ek, h⟩ := h
  refine ⟨k, res_bl rr (asB_eq ek), ?_⟩
  cases k with
  | false =>
    rw [if_neg Bool.false_ne_true]
    exact ⟨H1, s1, R1, Out.on_imp (show (m2 s1).on _ _ from h) (fun k s2 h v H3 H4 e2 R2 => h v H3 H4 (e.trans e2) R2) fun _ _ q => q.back e⟩
  | true =>
    rw [if_pos rfl]
    exact h _ H1 H2 e R1 .bl trivial
theorem e_not (ha : PEM X g W a m1) : PEM X g W (.UnaryOp .Not a pos) (eNotM m1) := PE.imp (pe_not ha) fun σ H Q ⟨H0, s, R, q⟩ => by
  unfold eNotM at q
  rw [on_bind] at q
  refine ⟨H0, s, R, Out.on_imp q (fun r s1 h v H1 H2 e R1 rr ap => ?_) fun _ _ q => q⟩
  rw [on_bind, on_opt] at h
  obtain ⟨k, ek, h⟩ := h
  exact ⟨k, res_bl rr (asB_eq ek), h _ H1 H2 e R1 .bl trivial⟩
theorem e_if (hc : PTM X g W c c1) (ha : PEM X g W a m1) (hb : PEM X g W b m2) : PEM X g W (.IfExp c a b pos) (eIfM c1 m1 m2) := PE.imp (pe_ifExp hc ha hb) fun σ H Q ⟨H0, s, R, q⟩ => by
  unfold eIfM at q
  rw [on_bind] at q
  refine ⟨H0, s, R, Out.on_imp q (fun k s1 h H1 H2 e R1 => ?_) fun _ _ q => q⟩
  cases k with
  | true =>
    rw [if_pos rfl]
    exact ⟨H1, s1, R1, Out.on_imp (show (m1 s1).on _ _ from h) (fun k s2 h v H3 H4 e2 R2 => h v H3 H4 (e.trans e2) R2) fun _ _ q => q.back e⟩
  | false =>
    rw [if_neg Bool.false_ne_true]
    exact ⟨H1, s1, R1, Out.on_imp (show (m2 s1).on _ _ from h) (fun k s2 h v H3 H4 e2 R2 => h v H3 H4 (e.trans e2) R2) fun _ _ q => q.back e⟩
end
end DL

set_option Elab.async false
set_option linter.all false
set_option maxRecDepth 100000
namespace DL
open PySem PySem.Spec L2
/-! ### what an operand shows now -/
def Cont (K : PySem.W.Frag) (bx : Addr) (H0 H : Hp) (v : V) : D → Prop
  | .lst ds => ∃ p vs, v = .ref p ∧ H p = some (.lst vs) ∧ Reps K bx H0 vs ds
  | d => Rep K bx H0 v d
theorem Rep.cont {K : PySem.W.Frag} {bx : Addr} {H0 H : Hp} {v : V} {d : D} (r : Rep K bx H0 v d) (sub : Ex H0 H) : Cont K bx H0 H v d := by
  cases r with
  | non => exact .non
  | bl => exact .bl
  | int => exact .int
  | str => exact .str
  | tup h l q => exact .tup h l q
  | lst h l q => exact ⟨_, _, rfl, sub _ _ h, l, q⟩
  | box => exact .box
  | dct h l q => exact .dct h l q
  | exc h h1 h2 h3 h4 h5 l q => exact .exc h h1 h2 h3 h4 h5 l q
  | ins h h1 h2 l q => exact .ins h h1 h2 l q
section
variable {β : Type} {K : PySem.W.Frag} {g : G β} {H0 H : Hp} {σ : L2.St} {s : S β} {v : V} {a : Arg} {d : D}
theorem Rel.cont_b (R : Rel K g H0 σ H s) {i : Nat} (h : (s.sl[i]?).bind slotC = some d) (hv : σ[i]? = some (some v)) : Cont K g.bx H0 H v d := by
  cases hs : s.sl[i]? with
  | none => rw [hs] at h; cases h
  | some k =>
    rw [hs] at h
    have sr := R.slot i k _ hs hv
    cases k with
    | no => cases h
    | v d' =>
      obtain ⟨y, e1, r⟩ := sr
      cases e1; cases h
      exact r.cont R.r0.sub
    | o ds =>
      obtain ⟨p, vs, e1, e2, rs, _⟩ := sr
      cases e1; cases h
      exact ⟨p, vs, rfl, e2, rs⟩
theorem Rel.cont (R : Rel K g H0 σ H s) (r : ArgR K g H0 σ v a) {ds : List D} (h : resL s.sl [a] = some ds) : ∃ d, ds = [d] ∧ Cont K g.bx H0 H v d := by
  cases a with
  | v d => cases h; exact ⟨d, rfl, Rep.cont r R.r0.sub⟩
  | b i =>
    simp only [resL] at h
    cases h1 : (s.sl[i]?).bind slotC with
    | none => rw [h1] at h; cases h
    | some d =>
      rw [h1] at h; cases h
      exact ⟨d, rfl, R.cont_b h1 r⟩
end
section
variable {β : Type} {X : Cx} {g : G β} {W : WX} {a b c e : Expr} {es : List Expr} {m m1 m2 : M β RV} {ma : M β Arg} {ms : M β (List Arg)} {ls : M β (List D)} {pos p2 : Pos}
def eIx (ma : M β Arg) (m : M β RV) : M β RV := mbind ma fun x => mbind m fun y => mbind (rsl [x]) fun ds => opt (match ds with | [d] => ixD d y.d | _ => none)
theorem at_rep {K : PySem.W.Frag} {bx : Addr} {H : Hp} {vs : List V} {ds : List D} {i : Int} {d : D} (rs : Reps K bx H vs ds) (h : atI ds i = some d) : ∃ v, atI vs i = some v ∧ Rep K bx H v d := by
  unfold atI at h ⊢
  rw [← rs.len] at h
  cases e : ixN vs.length i with
  | none => rw [e] at h; cases h
  | some j =>
    rw [e] at h
    exact rs.at (i := j) h
theorem ix_ok {K : PySem.W.Frag} {g : G β} {H0 H : Hp} {v u : V} {d e : D} {rz : RV} {Q : VK} (sub : Ex H0 H) (hc : Cont K g.bx H0 H v d) (re : Rep K g.bx H0 u e) (h : ixD d e = some rz) (k : Fin K g.bx H0 H rz Q) : rIx K v u H Q := by
  unfold ixD at h
  split at h
  · rename_i ds i
    obtain ⟨p, vs, rfl, hp, rs⟩ := hc
    cases re
    rw [Option.map_eq_some_iff] at h
    obtain ⟨d, h, rfl⟩ := h
    obtain ⟨v, hv, rv⟩ := at_rep rs h
    exact .inl ⟨p, vs, i, v, rfl, rfl, .of hp, hv, k.val sub rv⟩
  · rename_i ds i
    cases re
    rw [Option.map_eq_some_iff] at h
    obtain ⟨d, h, rfl⟩ := h
    cases (show Rep K g.bx H0 v (.tup ds) from hc) with
    | tup ht l q =>
      obtain ⟨v, hv, rv⟩ := at_rep ⟨l, q⟩ h
      exact .inr (.inl ⟨_, _, i, v, rfl, rfl, sub.t ht, hv, k.val sub rv⟩)
  · rename_i z i
    cases re
    split at h
    · rename_i hl
      rw [Option.map_eq_some_iff] at h
      obtain ⟨c, h, rfl⟩ := h
      cases (show Rep K g.bx H0 v (.str z) from hc)
      exact .inr (.inr ⟨z, i, c, rfl, rfl, hl, h, k.val sub .str⟩)
    · cases h
  · cases h
theorem e_ix (ha : PBM X g W a ma) (hb : PEM X g W b m) (hs : PlainIx b := by intro _ _; rfl) : PEM X g W (.Subscript a b pos) (eIx ma m) := PE.imp (pe_ix ix_seq ha hb.d hs) fun σ H Q ⟨H0, s, R, h⟩ => by
  unfold eIx at h
  rw [on_bind] at h
  refine ⟨H0, s, R, Out.on_imp h (fun x s1 h v H1 Hr1 e1 R1 r1 => ?_) fun _ _ q => q⟩
  rw [on_bind] at h
  refine ⟨H1, s1, R1, Out.on_imp h (fun y s2 h u H2 Hr2 e2 R2 r2 => ?_) fun _ _ q => q.back e1⟩
  rw [on_bind, on_rsl] at h
  obtain ⟨ds, eds, h⟩ := h
  rw [on_opt] at h
  obtain ⟨rz, ez, h⟩ := h
  obtain ⟨d, rfl, hc⟩ := R2.cont (r1.mono e2) eds
  exact ix_ok R2.r0.sub hc r2 ez (fin_of R2 (e1.trans e2) h)
/-! ### slices -/
def cutL {α : Type} (xs : List α) (lo hi : Option Int) : List α := (xs.drop (HT.sIx xs.length 0 lo)).take (HT.sIx xs.length xs.length hi - HT.sIx xs.length 0 lo)
theorem cut_reps {K : PySem.W.Frag} {bx : Addr} {H : Hp} {vs : List V} {ds : List D} (rs : Reps K bx H vs ds) (lo hi : Option Int) : Reps K bx H (cutV vs lo hi) (cutL ds lo hi) := by
  unfold cutV cutL
  rw [← rs.len]
  exact (rs.drop _).take _
def slD : D → Option Int → Option Int → Option RV
  | .lst ds, lo, hi => some (.o (cutL ds lo hi))
  | .tup ds, lo, hi => some (.v (.tup (cutL ds lo hi)))
  | .str z, lo, hi => if z.length ≤ sizeLine then some (.v (.str (cutS z lo hi))) else none
  | _, _, _ => none
def asI : D → Option Int
  | .int i => some i
  | _ => none
theorem asI_eq {d : D} {i : Int} (h : asI d = some i) : d = .int i := by
  unfold asI at h
  split at h
  · cases h; rfl
  · cases h
def tP (K : PySem.W.Frag) (mg : Str → Option Value) (g : G β) (W : WX) (m : M β (Option Int)) : TO := fun σ H Q => ∃ H0 s, Rel K g H0 σ H s ∧ (m s).on
  (fun o s' => ∀ H0' H', Ex H0 H0' → Rel K g H0' σ H' s' → Q o H') (Esc K mg g W H0 σ)
abbrev PPM (X : Cx) (g : G β) (W : WX) (e : Option Expr) (m : M β (Option Int)) : Prop := PO X e (tP X.K X.mg g W m)
def partM (m : M β RV) : M β (Option Int) := mbind m fun r => mbind (opt (asI r.d)) fun i => mret (some i)
theorem PO.imp {X : Cx} {e : Option Expr} {t t' : TO} (h : PO X e t) (i : ∀ σ H Q, t' σ H Q → t σ H Q) : PO X e t' := ⟨fun pins s σ H Q I q => h.run pins s σ H Q I (i σ H Q q)⟩
theorem p_none : PPM X g W none (mret none) := PO.imp po_none fun σ H Q ⟨H0, s, R, q⟩ => q H0 H (Ex.refl _) R
theorem p_some (h : PEM X g W e m) : PPM X g W (some e) (partM m) := PO.imp (po_some h.d) fun σ H Q ⟨H0, s, R, q⟩ => by
  unfold partM at q
  rw [on_bind] at q
  refine ⟨H0, s, R, Out.on_imp q (fun r s1 q v H1 H2 e1 R1 rr => ?_) fun _ _ q => q⟩
  rw [on_bind, on_opt] at q
  obtain ⟨i, ei, q⟩ := q
  rw [asI_eq ei] at rr
  cases rr
  exact ⟨i, rfl, q H1 H2 e1 R1⟩
def rSlU (K : PySem.W.Frag) : V → Option Int → Option Int → Hp → VK → Prop := fun x lo hi H Q => rSlL K x lo hi H Q ∨ rSlA K x lo hi H Q ∨ rSlS x lo hi H Q
theorem sl_U : SlR X (rSlU X.K) := sl_list.or (sl_tupA.or sl_str)
theorem cut_whole {α : Type} {xs : List α} {lo hi : Option Int} (h : HT.sIx xs.length 0 lo = 0 ∧ HT.sIx xs.length xs.length hi = xs.length) : cutL xs lo hi = xs := by
  unfold cutL
  rw [h.1, h.2]
  simp
def eSl (ma : M β Arg) (lo hi : M β (Option Int)) : M β RV := mbind ma fun x => mbind lo fun l => mbind hi fun h => mbind (rsl [x]) fun ds => opt (match ds with | [d] => slD d l h | _ => none)
theorem sl_ok {K : PySem.W.Frag} {g : G β} {H0 H : Hp} {v : V} {d : D} {lo hi : Option Int} {rz : RV} {Q : VK} (sub : Ex H0 H) (hc : Cont K g.bx H0 H v d) (h : slD d lo hi = some rz) (k : Fin K g.bx H0 H rz Q) : rSlU K v lo hi H Q := by
  cases d with
  | lst ds =>
    cases h
    obtain ⟨p, vs, rfl, hp, rs⟩ := hc
    exact .inl ⟨p, vs, rfl, .of hp, fun q hq => k.lst sub (cut_reps rs _ _) hq⟩
  | tup ds =>
    cases h
    cases (show Rep K g.bx H0 v (.tup ds) from hc) with
    | tup ht l q =>
      have rs : Reps K g.bx H0 _ ds := ⟨l, q⟩
      refine .inr (.inl ⟨_, _, rfl, sub.t ht, fun hw => ?_, fun _ p hp => k.tup sub (cut_reps rs _ _) hp⟩)
      rw [cut_whole (by rw [← l]; exact hw)] at k
      exact k.val sub (.tup ht l q)
  | str z =>
    have h : (if z.length ≤ sizeLine then some (.v (.str (cutS z lo hi))) else none) = some rz := h
    split at h
    · rename_i hl
      cases h
      cases (show Rep K g.bx H0 v (.str z) from hc)
      exact .inr (.inr ⟨z, rfl, hl, k.val sub .str⟩)
    · cases h
  | _ => cases h
theorem e_sl {lo hi : Option Expr} {l h : M β (Option Int)} (ha : PBM X g W a ma) (hl : PPM X g W lo l) (hh : PPM X g W hi h) : PEM X g W (.Subscript a (.Slice lo hi none p2) pos) (eSl ma l h) := PE.imp (pe_slice sl_U ha hl hh) fun σ H Q ⟨H0, s, R, q⟩ => by
  unfold eSl at q
  rw [on_bind] at q
  refine ⟨H0, s, R, Out.on_imp q (fun x s1 q v H1 Hr1 e1 R1 r1 => ?_) fun _ _ q => q⟩
  rw [on_bind] at q
  refine ⟨H1, s1, R1, Out.on_imp q (fun l s2 q H2 Hr2 e2 R2 => ?_) fun _ _ q => q.back e1⟩
  rw [on_bind] at q
  refine ⟨H2, s2, R2, Out.on_imp q (fun u s3 q H3 Hr3 e3 R3 => ?_) fun _ _ q => q.back (e1.trans e2)⟩
  rw [on_bind, on_rsl] at q
  obtain ⟨ds, eds, q⟩ := q
  rw [on_opt] at q
  obtain ⟨rz, ez, q⟩ := q
  obtain ⟨d, rfl, hc⟩ := R3.cont (r1.mono (e2.trans e3)) eds
  exact sl_ok R3.r0.sub hc ez (fin_of R3 ((e1.trans e2).trans e3) q)

/-! ### built-in functions by name -/
/-- f's call is r, and r serves f' -/
structure Blt (X : Cx) (f : Value) (f' : List D → Option RV) : Prop where
  ex : ∃ r, CallR X f r ∧ CallOk X.K r f'
theorem e_bltB {x : Str} {id : String} {f : List D → Option RV} {p : Pos} (hc : Blt X (.builtin id) f) (hg : Gl X x) (hm : X.mg x = none) (hv : bootBuiltins x = some (.builtin id)) (ha : PABM X g W (e :: es) ms) (hn : x ≠ "__name__" := by decide) (hdb : (x == ("__debug__" : Str)) = false := by decide)
    (he : starEach (e :: es) X.env = (false, eval e X.env) :: starEach es X.env := by rfl) (hpl : (backTo pos (starEach es X.env)).any (·.1) = false := by rfl) : PEM X g W (.Call (.Name x p) (e :: es) [] pos) (eAppB f ms) := by
  obtain ⟨r, cr, ok⟩ := hc.ex
  exact PE.imp (pe_callB cr hg hm hv ha hn hdb he hpl) fun _ _ _ => appB_tE ok
theorem e_bltT {x : Str} {T : String} {f : List D → Option RV} {p : Pos} (hc : Blt X (.type T) f) (hg : Gl X x) (hm : X.mg x = none) (hv : bootBuiltins x = some (.type T)) (ha : PABM X g W (e :: es) ms) (hn : x ≠ "__name__" := by decide) (hdb : (x == ("__debug__" : Str)) = false := by decide)
    (he : starEach (e :: es) X.env = (false, eval e X.env) :: starEach es X.env := by rfl) (hpl : (backTo pos (starEach es X.env)).any (·.1) = false := by rfl) : PEM X g W (.Call (.Name x p) (e :: es) [] pos) (eAppB f ms) := by
  obtain ⟨r, cr, ok⟩ := hc.ex
  exact PE.imp (pe_callTy cr hg hm hv ha hn hdb he hpl) fun _ _ _ => appB_tE ok

/-! ### which built-ins -/
def lenF : List D → Option RV
  | [.lst ds] => some (.v (.int ds.length))
  | [.tup ds] => some (.v (.int ds.length))
  | [.str z] => if z.length ≤ sizeLine then some (.v (.int z.length)) else none
  | _ => none
theorem b_len : Blt X (.builtin "len") lenF := ⟨_, call_len, fun bx H0 H xs dxs rz Q sub rs e k => by
  unfold lenF at e
  split at e
  · cases e
    obtain ⟨v, rfl, r⟩ := rs.cases1
    cases r with
    | lst h l q => exact ⟨_, _, rfl, .inl ⟨_, .of (sub _ _ h), rfl⟩, by rw [l]; exact k.val sub .int⟩
  · cases e
    obtain ⟨v, rfl, r⟩ := rs.cases1
    cases r with
    | tup h l q => exact ⟨_, _, rfl, .inr ⟨_, sub.t h, rfl⟩, by rw [l]; exact k.val sub .int⟩
  · split at e
    · rename_i hl
      cases e
      obtain ⟨v, rfl, r⟩ := rs.cases1
      cases r
      exact ⟨_, _, rfl, ⟨hl, rfl⟩, k.val sub .int⟩
    · cases e
  · cases e⟩
def absF : List D → Option RV
  | [.int i] => some (.v (.int (if i < 0 then -i else i)))
  | _ => none
theorem b_abs : Blt X (.builtin "abs") absF := ⟨_, call_abs, fun bx H0 H xs dxs rz Q sub rs e k => by
  unfold absF at e
  split at e
  · cases e
    obtain ⟨v, rfl, r⟩ := rs.cases1
    cases r
    exact ⟨_, rfl, k.val sub .int⟩
  · cases e⟩
def intF : List D → Option RV
  | [.int i] => some (.v (.int i))
  | [.bl k] => some (.v (.int (if k then 1 else 0)))
  | _ => none
theorem b_int : Blt X (.type "int") intF := ⟨_, call_int1, fun bx H0 H xs dxs rz Q sub rs e k => by
  unfold intF at e
  split at e
  · cases e
    obtain ⟨v, rfl, r⟩ := rs.cases1
    cases r
    exact .inl ⟨_, rfl, k.val sub .int⟩
  · cases e
    obtain ⟨v, rfl, r⟩ := rs.cases1
    cases r
    exact .inr ⟨_, rfl, k.val sub .int⟩
  · cases e⟩
def gcdF : List D → Option RV
  | [.int a, .int b] => some (.v (.int ((Nat.gcd a.natAbs b.natAbs : Nat) : Int)))
  | _ => none
theorem b_gcd : Blt X (.builtin "math.gcd") gcdF := ⟨_, cr_gcd, fun bx H0 H xs dxs rz Q sub rs e k => by
  unfold gcdF at e
  split at e
  · cases e
    obtain ⟨v, u, rfl, r, r'⟩ := rs.cases2
    cases r; cases r'
    exact ⟨_, _, rfl, k.val sub .int⟩
  · cases e⟩
def listF : List D → Option RV
  | [.lst ds] => some (.o ds)
  | [.tup ds] => some (.o ds)
  | _ => none
theorem b_list : Blt X (.type "list") listF := ⟨_, call_list_of, fun bx H0 H xs dxs rz Q sub rs e k => by
  unfold listF at e
  split at e
  · cases e
    obtain ⟨v, rfl, r⟩ := rs.cases1
    cases r with
    | lst h l q => exact ⟨_, _, rfl, .inl (.of (sub _ _ h)), fun p hp => k.lst sub ⟨l, q⟩ hp⟩
  · cases e
    obtain ⟨v, rfl, r⟩ := rs.cases1
    cases r with
    | tup h l q => exact ⟨_, _, rfl, .inr (sub.t h), fun p hp => k.lst sub ⟨l, q⟩ hp⟩
  · cases e⟩
def tupleF : List D → Option RV
  | [.lst ds] => some (.v (.tup ds))
  | [.tup ds] => some (.v (.tup ds))
  | _ => none
theorem b_tuple : Blt X (.type "tuple") tupleF := ⟨_, call_tuple_of, fun bx H0 H xs dxs rz Q sub rs e k => by
  unfold tupleF at e
  split at e
  · cases e
    obtain ⟨v, rfl, r⟩ := rs.cases1
    cases r with
    | lst h l q => exact ⟨_, _, rfl, .inl ⟨.of (sub _ _ h), fun p hp => k.tup sub ⟨l, q⟩ hp⟩⟩
  · cases e
    obtain ⟨v, rfl, r⟩ := rs.cases1
    cases r with
    | tup h l q => exact ⟨_, _, rfl, .inr ⟨sub.t h, k.val sub (.tup h l q)⟩⟩
  · cases e⟩
theorem e_bltG {x : Str} {id : String} {f : List D → Option RV} {p : Pos} (hc : Blt X (.builtin id) f) (hg : Gl X x) (hm : X.mg x = some (.builtin id)) (ha : PABM X g W (e :: es) ms) (hdb : (x == ("__debug__" : Str)) = false := by decide)
    (he : starEach (e :: es) X.env = (false, eval e X.env) :: starEach es X.env := by rfl) (hpl : (backTo pos (starEach es X.env)).any (·.1) = false := by rfl) : PEM X g W (.Call (.Name x p) (e :: es) [] pos) (eAppB f ms) := by
  obtain ⟨r, cr, ok⟩ := hc.ex
  exact PE.imp (pe_callBfun cr hg hm ha hdb he hpl) fun _ _ _ => appB_tE ok
end
end DL

set_option Elab.async false
set_option linter.all false
set_option maxRecDepth 100000
namespace DL
open PySem PySem.Spec L2
section
variable {β : Type} {K : PySem.W.Frag} {mg : Str → Option Value} {g : G β} {W : WX} {H0 H H0' H' : Hp} {σ : L2.St} {s s' : S β} {v : V} {r : RV}
def FlP (K : PySem.W.Frag) (g : G β) (D' : Ends) (H0 : Hp) : Fl → S β → Prop
  | .nx, s' => ∀ σ' H0' H', Ex H0 H0' → Rel K g H0' σ' H' s' → D'.nx σ' H'
  | .bk, s' => ∀ σ' H0' H', Ex H0 H0' → Rel K g H0' σ' H' s' → D'.bk σ' H'
  | .ct, s' => ∀ σ' H0' H', Ex H0 H0' → Rel K g H0' σ' H' s' → D'.ct σ' H'
  | .rt r, s' => ∀ v σ' H0' H', Ex H0 H0' → Rel K g H0' σ' H' s' → ResR K g H0' H' v r → D'.rt v H'
def EscS (K : PySem.W.Frag) (mg : Str → Option Value) (g : G β) (W : WX) (H0 : Hp) (x : Exc) (s' : S β) : Prop :=
  ∀ c dd σ' H0' H', Ex H0 H0' → Rel K g H0' σ' H' s' → XRep K mg g.bx H0' H' c dd x → W c dd σ' H'
/-- a statement, a block by its mirror -/
def tS (K : PySem.W.Frag) (mg : Str → Option Value) (g : G β) (W : WX) (m : M β Fl) : TS := fun D' σ H => ∃ H0 s, Rel K g H0 σ H s ∧ (m s).on (FlP K g D' H0) (EscS K mg g W H0)
/-- only the slots of tgt differ -/
def But (tgt : List Nat) (σ σ' : L2.St) : Prop := σ'.length = σ.length ∧ ∀ j : Nat, j ∉ tgt → σ'[j]? = σ[j]?
theorem But.refl {tgt : List Nat} {σ : L2.St} : But tgt σ σ := ⟨rfl, fun _ _ => rfl⟩
def tG (K : PySem.W.Frag) (g : G β) (tgt : List Nat) (t : D → M β Unit) : TG := fun v σ H Q => ∃ H0 s d, Rel K g H0 σ H s ∧ Rep K g.bx H0 v d ∧ (t d s).on (fun _ s' => ∀ σ' H0' H', But tgt σ σ' → Ex H0 H0' → Rel K g H0' σ' H' s' → Q σ' H') (fun _ _ => False)
def tGs (K : PySem.W.Frag) (g : G β) (tgt : List Nat) (t : List D → M β Unit) : TGs := fun vs σ H Q => ∃ H0 s ds, Rel K g H0 σ H s ∧ Reps K g.bx H0 vs ds ∧ (t ds s).on (fun _ s' => ∀ σ' H0' H', But tgt σ σ' → Ex H0 H0' → Rel K g H0' σ' H' s' → Q σ' H') (fun _ _ => False)
theorem FlP.back {D' : Ends} {f : Fl} (h : FlP K g D' H0 f s) (e : Ex H0 H0') : FlP K g D' H0' f s := by
  cases f with
  | nx => exact fun σ' H1 H2 e2 R => h σ' H1 H2 (e.trans e2) R
  | bk => exact fun σ' H1 H2 e2 R => h σ' H1 H2 (e.trans e2) R
  | ct => exact fun σ' H1 H2 e2 R => h σ' H1 H2 (e.trans e2) R
  | rt r => exact fun v σ' H1 H2 e2 R rr => h v σ' H1 H2 (e.trans e2) R rr
theorem EscS.back {x : Exc} (h : EscS K mg g W H0 x s) (e : Ex H0 H0') : EscS K mg g W H0' x s := fun c dd σ' H1 H2 e2 R X => h c dd σ' H1 H2 (e.trans e2) R X
theorem EscS.e {x : Exc} (h : EscS K mg g W H0 x s) : Esc K mg g W H0 σ x s := fun c dd H1 H2 e R X => h c dd σ H1 H2 e R X
theorem on_back {m : Out (S β) Fl} {D' : Ends} (h : m.on (FlP K g D' H0) (EscS K mg g W H0)) (e : Ex H0 H0') : m.on (FlP K g D' H0') (EscS K mg g W H0') := Out.on_imp h (fun _ _ q => q.back e) fun _ _ q => q.back e
/-- a step that raises nothing -/
def noX {α : Type} (m : M β α) : M β α := fun s => match m s with
  | .ok a s => .ok a s
  | _ => .bad
theorem on_noX {α : Type} {m : M β α} {k : α → S β → Prop} {e e' : Exc → S β → Prop} (h : (noX m s).on k e) : (m s).on k e' := by
  unfold noX at h
  revert h
  cases m s <;> exact fun h => by first | exact h | exact h.elim
/-- a slot stored -/
def sv : RV → Slot
  | .v d => .v d
  | .o ds => .o ds
def stV (i : Nat) (r : RV) : M β Unit := fun s => match s.sl[i]? with
  | some _ => .ok () { s with sl := s.sl.set i (sv r) }
  | none => .bad
theorem Rel.set (R : Rel K g H0 σ H s) {i : Nat} (hi : i < σ.length) (rr : ResR K g H0 H v r) (ap : Apart σ s.sl v r) : Rel K g H0 (σ.set i (some v)) H { s with sl := s.sl.set i (sv r) } := by
  have hl : i < s.sl.length := by rw [R.len]; exact hi
  refine ⟨R.r0, by simpa using R.len, fun j k x h1 h2 => ?_, fun j l ds es p h1 h2 h3 h4 => ?_⟩
  · have h1 : (s.sl.set i (sv r))[j]? = some k := h1
    by_cases hj : i = j
    · subst hj
      rw [List.getElem?_set_self hl] at h1
      rw [List.getElem?_set_self hi] at h2
      cases h1; cases h2
      cases r with
      | v d => exact ⟨v, rfl, rr⟩
      | o ds => obtain ⟨p, vs, rfl, q⟩ := rr; exact ⟨p, vs, rfl, q⟩
    · rw [List.getElem?_set_ne hj] at h1 h2
      exact R.slot j k x h1 h2
  · have h1 : (s.sl.set i (sv r))[j]? = some (.o ds) := h1
    have h2 : (s.sl.set i (sv r))[l]? = some (.o es) := h2
    have one : ∀ {j l : Nat} {ds es : List D} {p : Addr}, i = j → i ≠ l → (s.sl.set i (sv r))[j]? = some (.o ds) → (s.sl.set i (sv r))[l]? = some (.o es) → (σ.set i (some v))[j]? = some (some (.ref p)) → (σ.set i (some v))[l]? = some (some (.ref p)) → False := by
      intro j' l' ds' es' p' hj hl' k1 k2 k3 k4
      subst hj
      rw [List.getElem?_set_self hl] at k1
      rw [List.getElem?_set_self hi] at k3
      rw [List.getElem?_set_ne hl'] at k2
      rw [List.getElem?_set_ne hl'] at k4
      cases r with
      | v d => cases k1
      | o ds' => exact ap _ _ p' (Option.some.inj (Option.some.inj k3)) k2 k4
    by_cases hj : i = j
    · by_cases hl' : i = l
      · exact hj.symm.trans hl'
      · exact (one hj hl' h1 h2 h3 h4).elim
    · by_cases hl' : i = l
      · exact (one hl' hj h2 h1 h4 h3).elim
      · rw [List.getElem?_set_ne hj] at h1 h3
        rw [List.getElem?_set_ne hl'] at h2 h4
        exact R.dist j l ds es p h1 h2 h3 h4
theorem on_stV {i : Nat} {k : Unit → S β → Prop} {e : Exc → S β → Prop} (h : (stV i r s).on k e) : i < s.sl.length ∧ k () { s with sl := s.sl.set i (sv r) } := by
  unfold stV at h
  cases q : s.sl[i]? with
  | none => rw [q] at h; exact h.elim
  | some _ => rw [q] at h; exact ⟨(List.getElem?_eq_some_iff.mp q).1, h⟩
end
section
variable {β : Type} {X : Cx} {g : G β} {W : WX} {a b c e tg : Expr} {es : List Expr} {st : Stmt} {rest body orelse : List Stmt} {m m' me mi : M β RV} {f f' : M β Fl} {t : D → M β Unit} {ts : List D → M β Unit} {cm : M β Bool} {pos : Pos} {tgt tgt' : List Nat}
abbrev PSM (X : Cx) (g : G β) (W : WX) (st : Stmt) (m : M β Fl) : Prop := PS X st (tS X.K X.mg g W m)
abbrev PSSM (X : Cx) (g : G β) (W : WX) (st : List Stmt) (m : M β Fl) : Prop := PSs X st (tS X.K X.mg g W m)
abbrev PGM (X : Cx) (g : G β) (tgt : List Nat) (tg : Expr) (t : D → M β Unit) : Prop := PG X tg (tG X.K g tgt t)
abbrev PGsM (X : Cx) (g : G β) (tgt : List Nat) (ts : List Expr) (t : List D → M β Unit) : Prop := PGs X ts (tGs X.K g tgt t)
theorem PS.imp {X : Cx} {st : Stmt} {t t' : TS} (h : PS X st t) (i : ∀ D σ H, t' D σ H → t D σ H) : PS X st t' := ⟨fun pins s σ H D I q => h.run pins s σ H D I (i D σ H q)⟩
theorem PSs.imp {X : Cx} {st : List Stmt} {t t' : TS} (h : PSs X st t) (i : ∀ D σ H, t' D σ H → t D σ H) : PSs X st t' := ⟨fun pins s σ H D I q => h.run pins s σ H D I (i D σ H q)⟩
theorem PG.imp {X : Cx} {e : Expr} {t t' : TG} (h : PG X e t) (i : ∀ v σ H Q, t' v σ H Q → t v σ H Q) : PG X e t' := ⟨fun pins s σ H v u Q I r q => h.run pins s σ H v u Q I r (i v σ H Q q)⟩
theorem PGs.imp {X : Cx} {e : List Expr} {t t' : TGs} (h : PGs X e t) (i : ∀ v σ H Q, t' v σ H Q → t v σ H Q) : PGs X e t' := ⟨fun pins s σ H v u Q I r q => h.run pins s σ H v u Q I r (i v σ H Q q)⟩
/-! ### blocks -/
def thenM (m2 : M β Fl) : Fl → M β Fl
  | .nx => m2
  | f => mret f
def seqM (m1 m2 : M β Fl) : M β Fl := mbind m1 (thenM m2)
theorem ss_nil : PSSM X g W [] (mret .nx) := PSs.imp pss_nil fun D σ H ⟨H0, s, R, q⟩ => q σ H0 H (Ex.refl _) R
theorem ss_cons (h1 : PSM X g W st f) (h2 : PSSM X g W rest f') : PSSM X g W (st :: rest) (seqM f f') := PSs.imp (pss_cons h1 h2) fun D σ H ⟨H0, s, R, q⟩ => by
  unfold seqM at q
  rw [on_bind] at q
  refine ⟨H0, s, R, Out.on_imp q (fun fl s1 q => ?_) fun _ _ q => q⟩
  cases fl with
  | nx => exact fun σ' H1 H2 e R' => ⟨H1, s1, R', on_back q e⟩
  | bk => exact q
  | ct => exact q
  | rt r => exact q
theorem ss_one (h1 : PSM X g W st f) : PSSM X g W [st] f := pss_one h1
/-! ### small statements -/
def dropM (m : M β RV) : M β Fl := mbind m fun _ => mret .nx
def retM (m : M β RV) : M β Fl := mbind m fun r => mret (.rt r)
def retN (i : Nat) : M β Fl := fun s => match s.sl[i]? with
  | some (.v d) => .ok (.rt (.v d)) s
  | some (.o ds) => .ok (.rt (.o ds)) s
  | _ => .bad
def asgM (i : Nat) (m : M β RV) : M β Fl := mbind m fun r => mbind (stV i r) fun _ => mret .nx
def asgT (m : M β RV) (t : D → M β Unit) : M β Fl := mbind m fun r => mbind (noX (t r.d)) fun _ => mret .nx
def ifM (c : M β Bool) (m1 m2 : M β Fl) : M β Fl := mbind c fun k => mIte k m1 m2
theorem s_pass : PSM X g W (.Pass pos) (mret .nx) := PS.imp ps_pass fun D σ H ⟨H0, s, R, q⟩ => q σ H0 H (Ex.refl _) R
theorem s_break : PSM X g W (.Break pos) (mret .bk) := PS.imp ps_break fun D σ H ⟨H0, s, R, q⟩ => q σ H0 H (Ex.refl _) R
theorem s_continue : PSM X g W (.Continue pos) (mret .ct) := PS.imp ps_continue fun D σ H ⟨H0, s, R, q⟩ => q σ H0 H (Ex.refl _) R
theorem s_expr (h : PEM X g W e m) (hs : swapsWith e none pos.line X.env = pure false := by rfl) : PSM X g W (.Expr e pos) (dropM m) := PS.imp (ps_expr h hs) fun D σ H ⟨H0, s, R, q⟩ => by
  unfold dropM at q
  rw [on_bind] at q
  exact ⟨H0, s, R, Out.on_imp q (fun r s1 q v H1 H2 e R1 _ _ => q σ H1 H2 e R1) fun _ _ q => q.e⟩
theorem s_ret (h : PEM X g W e m) : PSM X g W (.Return (some e) pos) (retM m) := PS.imp (ps_ret h) fun D σ H ⟨H0, s, R, q⟩ => by
  unfold retM at q
  rw [on_bind] at q
  exact ⟨H0, s, R, Out.on_imp q (fun r s1 q v H1 H2 e R1 rr _ => q v σ H1 H2 e R1 rr) fun _ _ q => q.e⟩
theorem s_retN : PSM X g W (.Return none pos) (mret (.rt (.v .non))) := PS.imp ps_retN fun D σ H ⟨H0, s, R, q⟩ => q .non σ H0 H (Ex.refl _) R .non
theorem s_retV (i : Nat) {x : Str} {p : Pos} (hN : X.N[i]? = some x := by rfl) (hv : Vis X.env.scope x := by first | exact Or.inl rfl | exact Or.inr (Or.inl rfl) | exact Or.inr (Or.inr rfl)) (hd : (x == ("__debug__" : Str)) = false := by decide)
    (hcd : (x == ("__classdict__" : Str)) = false := by decide) : PSM X g W (.Return (some (.Name x p)) pos) (retN i) := PS.imp (ps_ret (pe_var hN hv hd hcd)) fun D σ H ⟨H0, s, R, q⟩ => by
  unfold retN at q
  cases hs : s.sl[i]? with
  | none => rw [hs] at q; exact q.elim
  | some k =>
    rw [hs] at q
    have hi : i < σ.length := by
      rw [← R.len]; exact (List.getElem?_eq_some_iff.mp hs).1
    have sr := R.slot i k σ[i] hs (by simp [hi])
    cases k with
    | no => exact q.elim
    | v d =>
      obtain ⟨y, e1, r⟩ := sr
      exact ⟨y, by simp [hi, e1], q y σ H0 H (Ex.refl _) R r⟩
    | o ds =>
      obtain ⟨p, vs, e1, z⟩ := sr
      exact ⟨.ref p, by simp [hi, e1], q _ σ H0 H (Ex.refl _) R ⟨p, vs, rfl, z⟩⟩
theorem s_if (hc : PTM X g W c cm) (ha : PSSM X g W body f) (hb : PSSM X g W orelse f') : PSM X g W (.If c body orelse pos) (ifM cm f f') := PS.imp (ps_if hc ha hb) fun D σ H ⟨H0, s, R, q⟩ => by
  unfold ifM at q
  rw [on_bind] at q
  refine ⟨H0, s, R, Out.on_imp q (fun k s1 q H1 H2 e R1 => ?_) fun _ _ q => q.e⟩
  cases k with
  | true => rw [if_pos rfl]; exact ⟨H1, s1, R1, on_back (show (f s1).on _ _ from q) e⟩
  | false => rw [if_neg Bool.false_ne_true]; exact ⟨H1, s1, R1, on_back (show (f' s1).on _ _ from q) e⟩
theorem s_asg (i : Nat) {x : Str} {p : Pos} (hN : X.N.Nodup) (h : PEM X g W e m) (hi : X.N[i]? = some x := by rfl) (hx : Loc X.env.scope x := by first | exact Or.inl rfl | exact Or.inr rfl) (hs : swapsWith e (some (.Name x p)) pos.line X.env = pure false := by rfl) (hf : X.fn x = true ∨ X.env.scope.names.lookup x = some .local := by first | exact .inl rfl | exact .inr rfl | assumption) :
    PSM X g W (.Assign [.Name x p] e pos) (asgM i m) := PS.imp (ps_set hN hi hx h hs hf) fun D σ H ⟨H0, s, R, q⟩ => by
  unfold asgM at q
  rw [on_bind] at q
  refine ⟨H0, s, R, Out.on_imp q (fun r s1 q v H1 H2 e R1 rr ap => ?_) fun _ _ q => q.e⟩
  rw [on_bind] at q
  obtain ⟨hl, q⟩ := on_stV q
  exact q _ H1 H2 e (R1.set (by rw [← R1.len]; exact hl) rr ap)
theorem g_name (i : Nat) {x : Str} (hN : X.N.Nodup) (hi : X.N[i]? = some x := by rfl) (hx : Loc X.env.scope x := by first | exact Or.inl rfl | exact Or.inr rfl) (hf : X.fn x = true ∨ X.env.scope.names.lookup x = some .local := by first | exact .inl rfl | exact .inr rfl | assumption) : PGM X g [i] (.Name x pos) (fun d => stV i (.v d)) := PG.imp (pg_name hN hi hx hf) fun v σ H Q ⟨H0, s, d, R, r, q⟩ => by
  obtain ⟨hl, q⟩ := on_stV q
  exact q _ H0 H ⟨by simp, fun j hj => List.getElem?_set_ne (fun e => hj (by simp [e]))⟩ (Ex.refl _) (R.set (r := .v d) (by rw [← R.len]; exact hl) r trivial)
theorem gs_nil : PGsM X g [] [] (fun ds => match ds with | [] => mret () | _ => mbad) := PGs.imp pgs_nil fun vs σ H Q ⟨H0, s, ds, R, r, q⟩ => by
  cases ds with
  | nil => exact ⟨r.cases_nil, q σ H0 H .refl (Ex.refl _) R⟩
  | cons d ds => exact q.elim
def gsC (t : D → M β Unit) (ts : List D → M β Unit) : List D → M β Unit
  | d :: ds => mbind (t d) fun _ => ts ds
  | [] => mbad
theorem gs_cons (h1 : PGM X g tgt e t) (h2 : PGsM X g tgt' es ts) (hs : (assignEach (e :: es) X.env).map (·.2) = assign e X.env :: (assignEach es X.env).map (·.2) := by rfl) : PGsM X g (tgt ++ tgt') (e :: es) (gsC t ts) := PGs.imp (pgs_cons h1 h2 hs) fun vs σ H Q ⟨H0, s, ds, R, r, q⟩ => by
  cases ds with
  | nil => exact q.elim
  | cons d ds =>
    obtain ⟨v, ws, rfl, rv, rs⟩ := r.cases_cons
    unfold gsC at q
    rw [on_bind] at q
    refine ⟨v, ws, rfl, H0, s, d, R, rv, Out.on_imp q (fun _ s1 q σ' H1 H2 b1 e R1 => ?_) fun _ _ q => q⟩
    exact ⟨H1, s1, ds, R1, rs.mono e, Out.on_imp q (fun _ s2 q σ2 H3 H4 b2 e2 R2 => q σ2 H3 H4 ⟨b2.1.trans b1.1, fun j hj => (b2.2 j fun h => hj (List.mem_append_right _ h)).trans (b1.2 j fun h => hj (List.mem_append_left _ h))⟩ (e.trans e2) R2) fun _ _ q => q⟩
def gtM (n : Nat) (ts : List D → M β Unit) : D → M β Unit
  | .tup ds => if ds.length = n then ts ds else mbad
  | _ => mbad
theorem g_tup {k n : Nat} (hc : X.calm = true) (h : PGsM X g tgt es ts) (hn : (assignEach es X.env).length = n := by rfl) (hst : (assignEach es X.env).findIdx? (·.1) = none := by rfl) : PGM X g tgt (.Tuple es k pos) (gtM n ts) := PG.imp (pg_tup hc h hn hst) fun v σ H Q ⟨H0, s, d, R, r, q⟩ => by
  unfold gtM at q
  split at q
  · rename_i ds
    split at q
    · rename_i hl
      cases r with
      | tup ht l z => exact ⟨_, _, rfl, R.r0.sub.t ht, by rw [l]; exact hl, H0, s, ds, R, ⟨l, z⟩, q⟩
    · exact q.elim
  · exact q.elim
theorem s_asgT (he : PEM X g W e m) (hg : PGM X g tgt tg t) (hs : swapsWithSole [tg] e pos.line X.env = pure false := by rfl) (hw : swappedStores [tg] e X.env = pure none := by rfl)
    (h1 : (assignEach [tg] X.env).map (·.2) = [assign tg X.env] := by rfl) : PSM X g W (.Assign [tg] e pos) (asgT m t) := PS.imp (ps_asg he.d hg hs hw h1) fun D σ H ⟨H0, s, R, q⟩ => by
  unfold asgT at q
  rw [on_bind] at q
  refine ⟨H0, s, R, Out.on_imp q (fun r s1 q v H1 H2 e R1 rr => ?_) fun _ _ q => q.e⟩
  rw [on_bind] at q
  exact ⟨H1, s1, r.d, R1, rr, Out.on_imp (on_noX q) (fun _ s2 q σ' H3 H4 _ e2 R2 => q σ' H3 H4 (e.trans e2) R2) fun _ _ q => q⟩
end
end DL

set_option Elab.async false
set_option linter.all false
set_option maxRecDepth 100000
namespace DL
open PySem PySem.Spec L2
section
variable {β : Type} {X : Cx} {g : G β} {W : WX} {a b c e tg iter : Expr} {es : List Expr} {st : Stmt} {rest body orelse : List Stmt} {m m' me mi : M β RV} {ls : M β (List D)} {f f' : M β Fl} {t : D → M β Unit} {ts : List D → M β Unit} {cm : M β Bool} {pos : Pos} {tgt tgt' : List Nat}
/-! ### a, b = x, y -/
def parM (is : List Nat) (ms : M β (List D)) : M β Fl := mbind ms fun ds => match is, ds with
  | [i, j], [d, e] => mbind (stV i (.v d)) fun _ => mbind (stV j (.v e)) fun _ => mret .nx
  | [i, j, k], [d, e, h] => mbind (stV i (.v d)) fun _ => mbind (stV j (.v e)) fun _ => mbind (stV k (.v h)) fun _ => mret .nx
  | _, _ => mbad
theorem Rel.setv {K : PySem.W.Frag} {g : G β} {H0 H : Hp} {σ : L2.St} {s : S β} {v : V} {d : D} (R : Rel K g H0 σ H s) {i : Nat} (hi : i < s.sl.length) (rr : Rep K g.bx H0 v d) : Rel K g H0 (σ.set i (some v)) H { s with sl := s.sl.set i (.v d) } := R.set (r := .v d) (by rw [← R.len]; exact hi) rr trivial
theorem s_par {i j : Nat} {x y : Str} {px py pt : Pos} {kt k2 pt2} (hN : X.N.Nodup) (ha : PAM X g W [a, b] ls) (hc : X.calm = true := by rfl) (hi : X.N[i]? = some x := by rfl) (hj : X.N[j]? = some y := by rfl) (hij : i ≠ j := by decide)
    (hx : X.env.scope.names.lookup x = some .local := by rfl) (hy : X.env.scope.names.lookup y = some .local := by rfl)
    (hw : swappedStores [.Tuple [.Name x px, .Name y py] kt pt] (.Tuple [a, b] k2 pt2) X.env = pure (some [x, y]) := by rfl)
    (hs : swapsWithSole [.Tuple [.Name x px, .Name y py] kt pt] (.Tuple [a, b] k2 pt2) pos.line X.env = pure false := by rfl) : PSM X g W (.Assign [.Tuple [.Name x px, .Name y py] kt pt] (.Tuple [a, b] k2 pt2) pos) (parM [i, j] ls) := PS.imp (ps_par hc hN hi hj hij hx hy ha hw hs) fun D σ H ⟨H0, s, R, q⟩ => by
  unfold parM at q
  rw [on_bind] at q
  refine ⟨H0, s, R, Out.on_imp q (fun ds s1 q vs H1 H2 e R1 rs => ?_) fun _ _ q => q.e⟩
  match ds, rs, q with
  | [d1, d2], rs, q =>
    obtain ⟨v, w, rfl, r1, r2⟩ := rs.cases2
    have q : (mbind (stV i (.v d1)) (fun _ => mbind (stV j (.v d2)) fun _ => mret Fl.nx) s1).on _ _ := q
    rw [on_bind] at q
    obtain ⟨l1, q⟩ := on_stV q
    rw [on_bind] at q
    obtain ⟨l2, q⟩ := on_stV q
    exact ⟨v, w, rfl, q _ H1 H2 e ((R1.setv l1 r1).setv l2 r2)⟩
  | [], _, q => exact q.elim
  | [_], _, q => exact q.elim
  | _ :: _ :: _ :: _, _, q => exact q.elim
theorem s_par3 {i j l : Nat} {x y z : Str} {px py pz pt : Pos} {kt k2 pt2} (hN : X.N.Nodup) (ha : PAM X g W [a, b, c] ls) (hc : X.calm = true := by rfl) (hi : X.N[i]? = some x := by rfl) (hj : X.N[j]? = some y := by rfl) (hl : X.N[l]? = some z := by rfl) (hij : i ≠ j := by decide) (hil : i ≠ l := by decide) (hjl : j ≠ l := by decide)
    (hx : X.env.scope.names.lookup x = some .local := by rfl) (hy : X.env.scope.names.lookup y = some .local := by rfl) (hz : X.env.scope.names.lookup z = some .local := by rfl)
    (hw : swappedStores [.Tuple [.Name x px, .Name y py, .Name z pz] kt pt] (.Tuple [a, b, c] k2 pt2) X.env = pure (some [x, y, z]) := by rfl)
    (hs : swapsWithSole [.Tuple [.Name x px, .Name y py, .Name z pz] kt pt] (.Tuple [a, b, c] k2 pt2) pos.line X.env = pure false := by rfl) : PSM X g W (.Assign [.Tuple [.Name x px, .Name y py, .Name z pz] kt pt] (.Tuple [a, b, c] k2 pt2) pos) (parM [i, j, l] ls) := PS.imp (ps_par3 hc hN hi hj hl hij hil hjl hx hy hz ha hw hs) fun D σ H ⟨H0, s, R, q⟩ => by
  unfold parM at q
  rw [on_bind] at q
  refine ⟨H0, s, R, Out.on_imp q (fun ds s1 q vs H1 H2 e R1 rs => ?_) fun _ _ q => q.e⟩
  match ds, rs, q with
  | [d1, d2, d3], rs, q =>
    obtain ⟨v, ws, rfl, r1, rs⟩ := rs.cases_cons
    obtain ⟨w, u, rfl, r2, r3⟩ := rs.cases2
    have q : (mbind (stV i (.v d1)) (fun _ => mbind (stV j (.v d2)) fun _ => mbind (stV l (.v d3)) fun _ => mret Fl.nx) s1).on _ _ := q
    rw [on_bind] at q
    obtain ⟨l1, q⟩ := on_stV q
    rw [on_bind] at q
    obtain ⟨l2, q⟩ := on_stV q
    rw [on_bind] at q
    obtain ⟨l3, q⟩ := on_stV q
    exact ⟨v, w, u, rfl, q _ H1 H2 e (((R1.setv l1 r1).setv l2 r2).setv l3 r3)⟩
  | [], _, q => exact q.elim
  | [_], _, q => exact q.elim
  | [_, _], _, q => exact q.elim
  | _ :: _ :: _ :: _ :: _, _, q => exact q.elim
/-! ### x op= e -/
def augM (i : Nat) (fo : D → D → Option RV) (m : M β RV) : M β Fl := fun s => match s.sl[i]? with
  | some (.v d) => mbind m (fun y => mbind (opt (fo d y.d)) fun r => mbind (stV i r) fun _ => mret .nx) s
  | _ => .bad
structure Aug (X : Cx) (op : Operator) (fo : D → D → Option RV) : Prop where
  ex : ∃ r, OpR X (inplaceOp op) r ∧ OpOk X.K r fo
def iaddD : D → D → Option RV
  | .int i, .int j => some (.v (.int (i + j)))
  | .str x, .str y => if x.length + y.length ≤ sizeLine then some (.v (.str (x ++ y))) else none
  | _, _ => none
theorem ok_iadd {K : PySem.W.Frag} : OpOk K (fun x y H Q => rI0 (fun i j => .int (i + j)) x y H Q ∨ (∃ i j, x = .str i ∧ y = .str j ∧ i.length + j.length ≤ sizeLine ∧ Q (.str (i ++ j)) H)) iaddD := fun bx H0 H x y dx dy rz Q sub rx ry e k => by
  unfold iaddD at e
  split at e
  · cases e; cases rx; cases ry; exact .inl ⟨_, _, rfl, rfl, k.val sub .int⟩
  · split at e
    · rename_i h; cases e; cases rx; cases ry; exact .inr ⟨_, _, rfl, rfl, h, k.val sub .str⟩
    · cases e
  · cases e
theorem i_add : Aug X .Add iaddD := ⟨_, iop_add.or iop_add_str, ok_iadd⟩
theorem i_sub : Aug X .Sub subD := ⟨_, iop_sub, ok_sub⟩
theorem s_aug (i : Nat) {x : Str} {op : Operator} {fo : D → D → Option RV} {p : Pos} (ha : Aug X op fo) (hN : X.N.Nodup) (h : PEM X g W e m) (hi : X.N[i]? = some x := by rfl) (hx : Loc X.env.scope x := by first | exact Or.inl rfl | exact Or.inr rfl) (hf : X.fn x = true ∨ X.env.scope.names.lookup x = some .local := by first | exact .inl rfl | exact .inr rfl | assumption) :
    PSM X g W (.AugAssign (.Name x p) op e pos) (augM i fo m) := by
  obtain ⟨r, ho, ok⟩ := ha.ex
  refine PS.imp (ps_aug hN hi hx h.d (show PIp X op r from ho) hf) fun D σ H ⟨H0, s, R, q⟩ => ?_
  unfold augM at q
  cases hs : s.sl[i]? with
  | none => rw [hs] at q; exact q.elim
  | some k =>
    rw [hs] at q
    have hl : i < s.sl.length := (List.getElem?_eq_some_iff.mp hs).1
    have hi' : i < σ.length := by rw [← R.len]; exact hl
    have sr := R.slot i k σ[i] hs (by simp [hi'])
    cases k with
    | no => exact q.elim
    | o ds => exact q.elim
    | v d =>
      obtain ⟨v, e1, rv⟩ := sr
      have q : (mbind m (fun y => mbind (opt (fo d y.d)) fun r => mbind (stV i r) fun _ => mret Fl.nx) s).on _ _ := q
      rw [on_bind] at q
      refine ⟨v, by simp [hi', e1], H0, s, R, Out.on_imp q (fun y s1 q u H1 H2 e2 R1 ru => ?_) fun _ _ q => q.e⟩
      rw [on_bind, on_opt] at q
      obtain ⟨rz, ez, q⟩ := q
      refine ok g.bx H1 H2 v u d y.d rz _ R1.r0.sub (rv.mono e2) ru ez (fin_of2 R1 fun z H3 H4 e3 R3 rr ap => ?_)
      rw [on_bind] at q
      obtain ⟨l1, q⟩ := on_stV q
      exact q _ H3 H4 (e2.trans e3) (R3.set (by rw [← R3.len]; exact l1) rr ap)
/-! ### while -/
def loopK (k : M β Fl) : Fl → M β Fl
  | .nx => k
  | .ct => k
  | .bk => mret .nx
  | .rt r => mret (.rt r)
def whM : Nat → M β Bool → M β Fl → M β Fl
  | 0, _, _ => mbad
  | n + 1, c, b => mbind c fun k => mIte k (mbind b (loopK (whM n c b))) (mret .nx)
theorem s_while (n : Nat) (hp : PassesOwn (model X.prog X.w) X.A X.env X.xe) (hc : PTM X g W c cm) (hb : PSSM X g W body f) : PSM X g W (.While c body [] pos) (whM n cm f) := PS.imp (ps_while hp hc hb) fun D σ H ⟨H0, s, R, q⟩ => by
  refine ⟨fun n σ H => ∃ H1 s, Ex H0 H1 ∧ Rel X.K g H1 σ H s ∧ (whM n cm f s).on (FlP X.K g D H1) (EscS X.K X.mg g W H1), ⟨n, H0, s, Ex.refl _, R, q⟩, ?_⟩
  rintro n σ H ⟨H1, s, e1, R, q⟩
  cases n with
  | zero => exact q.elim
  | succ n =>
    have q : (mbind cm (fun k => mIte k (mbind f (loopK (whM n cm f))) (mret Fl.nx)) s).on _ _ := q
    rw [on_bind] at q
    refine ⟨H1, s, R, Out.on_imp q (fun k s1 q H2 H3 e2 R1 => ?_) fun _ _ q => q.e⟩
    cases k with
    | false => rw [if_neg Bool.false_ne_true]; exact q σ H2 H3 e2 R1
    | true =>
      rw [if_pos rfl]
      have q : (mbind f (loopK (whM n cm f)) s1).on _ _ := q
      rw [on_bind] at q
      refine ⟨fun σ' H' => ∃ H4 s, Ex H0 H4 ∧ Rel X.K g H4 σ' H' s ∧ (whM n cm f s).on (FlP X.K g D H4) (EscS X.K X.mg g W H4), fun σ' H' h => ⟨n, Nat.lt_succ_self _, h⟩, H2, s1, R1, Out.on_imp q (fun fl s2 q => ?_) fun _ _ q => q.back e2⟩
      cases fl with
      | nx => exact fun σ' H4 H5 e4 R4 => ⟨H4, s2, (e1.trans e2).trans e4, R4, on_back q (e2.trans e4)⟩
      | ct => exact fun σ' H4 H5 e4 R4 => ⟨H4, s2, (e1.trans e2).trans e4, R4, on_back q (e2.trans e4)⟩
      | bk => exact fun σ' H4 H5 e4 R4 => q σ' H4 H5 (e2.trans e4) R4
      | rt r => exact fun v σ' H4 H5 e4 R4 rr => q v σ' H4 H5 (e2.trans e4) R4 rr
/-! ### for -/
structure Walks (K : PySem.W.Frag) (bx : Addr) (J : It) (H0 : Hp) (ds : List D) : Prop where
  stop : ∀ H, Ex H0 H → J.stop ds.length H
  go : ∀ H (i : Nat) (d : D), Ex H0 H → ds[i]? = some d → J.go i H
  yld : ∀ Ht H (i : Nat) (d : D) (x : V) H', Ex H0 Ht → Ex Ht H → ds[i]? = some d → J.yld i H x H' → ∃ H0', Grow Ht H H0' H' ∧ Rep K bx H0' x d
def tI (K : PySem.W.Frag) (mg : Str → Option Value) (g : G β) (W : WX) (mi : M β (List D)) : TI := fun σ H R' => ∃ H0 s, Rel K g H0 σ H s ∧ (mi s).on (fun ds s' => ∀ J H0' H', Ex H0 H0' → Rel K g H0' σ H' s' → Walks K g.bx J H0' ds → R' J H') (Esc K mg g W H0 σ)
abbrev PIM (X : Cx) (g : G β) (W : WX) (tg iter : Expr) (mi : M β (List D)) : Prop := PI X tg iter (tI X.K X.mg g W mi)
theorem PI.imp {X : Cx} {tg e : Expr} {t t' : TI} (h : PI X tg e t) (i : ∀ σ H Q, t' σ H Q → t σ H Q) : PI X tg e t' := ⟨fun pins s σ H Q I q => h.run pins s σ H Q I (i σ H Q q)⟩
def frM (t : D → M β Unit) (b : M β Fl) : List D → M β Fl
  | [] => mret .nx
  | d :: ds => mbind (noX (t d)) fun _ => mbind b (loopK (frM t b ds))
def forM (mi : M β (List D)) (t : D → M β Unit) (b : M β Fl) : M β Fl := mbind mi (frM t b)
theorem s_for {mi : M β (List D)} (hp : PassesOwn (model X.prog X.w) X.A X.env X.xe) (hc : X.calm = true) (hi : PIM X g W tg iter mi) (hg : PGM X g tgt tg t) (hb : PSSM X g W body f) (hs : ∀ x, foldedSetIterable iter X.env x = pure x := by intro _; rfl) : PSM X g W (.For tg iter body [] pos) (forM mi t f) := PS.imp (ps_for hp hc hi hg hb hs) fun D σ H ⟨H0, s, R, q⟩ => by
  unfold forM at q
  rw [on_bind] at q
  refine ⟨H0, s, R, Out.on_imp q (fun ds s1 q J H1 H2 e1 R1 wk => ?_) fun _ _ q => q.e⟩
  refine ⟨fun i k σ H => i + k = ds.length ∧ ∃ H3 s, Ex H1 H3 ∧ Rel X.K g H3 σ H s ∧ (frM t f (ds.drop i) s).on (FlP X.K g D H3) (EscS X.K X.mg g W H3), ⟨ds.length, by simp, H1, s1, Ex.refl _, R1, on_back q e1⟩, ?_⟩
  rintro i k σ H ⟨hk, H3, s, e3, R3, q⟩
  by_cases hlt : i < ds.length
  · refine .inr ⟨wk.go H i ds[i] (e3.trans R3.r0.sub) (by simp [hlt]), fun σ' H' => ∃ H3 s, Ex H1 H3 ∧ Rel X.K g H3 σ' H' s ∧ (frM t f (ds.drop (i + 1)) s).on (FlP X.K g D H3) (EscS X.K X.mg g W H3), fun σ' H' h => ⟨k - 1, by omega, by omega, h⟩, fun x H' y => ?_⟩
    obtain ⟨H4, gr, rx⟩ := wk.yld H3 H i ds[i] x H' e3 R3.r0.sub (by simp [hlt]) y
    have R4 := R3.grow gr.e0 gr.e gr.sub gr.new
    rw [show ds.drop i = ds[i] :: ds.drop (i + 1) from List.drop_eq_getElem_cons hlt] at q
    have q : (mbind (noX (t ds[i])) (fun _ => mbind f (loopK (frM t f (ds.drop (i + 1))))) s).on _ _ := q
    rw [on_bind] at q
    refine ⟨H4, s, ds[i], R4, rx, Out.on_imp (on_noX q) (fun _ s5 q σ5 H5 H6 _ e5 R5 => ?_) fun _ _ q => q⟩
    rw [on_bind] at q
    have e35 : Ex H3 H5 := gr.e0.trans e5
    refine ⟨H5, s5, R5, Out.on_imp q (fun fl s6 q => ?_) fun _ _ q => q.back e35⟩
    cases fl with
    | nx => exact fun σ' H7 H8 e7 R7 => ⟨H7, s6, (e3.trans e35).trans e7, R7, on_back q (e35.trans e7)⟩
    | ct => exact fun σ' H7 H8 e7 R7 => ⟨H7, s6, (e3.trans e35).trans e7, R7, on_back q (e35.trans e7)⟩
    | bk => exact fun σ' H7 H8 e7 R7 => q σ' H7 H8 (e35.trans e7) R7
    | rt r => exact fun v σ' H7 H8 e7 R7 rr => q v σ' H7 H8 (e35.trans e7) R7 rr
  · have ei : i = ds.length := by omega
    subst ei
    rw [List.drop_length] at q
    exact .inl ⟨wk.stop H (e3.trans R3.r0.sub), q σ H3 H (Ex.refl _) R3⟩
/-! ### what is walked -/
def itD : D → Option (List D)
  | .lst ds => some ds
  | .tup ds => some ds
  | _ => none
def itM (m : M β RV) : M β (List D) := mbind m fun r => opt (itD r.d)
theorem walks_l {K : PySem.W.Frag} {bx : Addr} {H0 : Hp} {a : Addr} {vs : List V} {ds : List D} (h : H0 a = some (.lst vs)) (rs : Reps K bx H0 vs ds) : Walks K bx (Itl K a) H0 ds := by
  refine ⟨fun H e => ⟨vs, .of (e _ _ h), by rw [rs.len]; exact Nat.le_refl _⟩, fun H i d e hd => ?_, fun Ht H i d x H' e0 e hd y => ?_⟩
  · obtain ⟨v, hv, _⟩ := rs.at hd
    exact ⟨vs, v, .of (e _ _ h), hv⟩
  · obtain ⟨rfl, y⟩ := y
    have hx := y vs (.of (e _ _ (e0 _ _ h)))
    obtain ⟨d', hd', r⟩ := rs.atV hx
    rw [hd] at hd'; cases hd'
    exact ⟨Ht, Grow.refl e, r.mono e0⟩
theorem walks_t {K : PySem.W.Frag} {bx : Addr} {H0 : Hp} {a : Addr} {vs : List V} {ds : List D} (h : SqT K H0 a vs) (rs : Reps K bx H0 vs ds) : Walks K bx (Itt K a) H0 ds := by
  refine ⟨fun H e => ⟨vs, e.t h, by rw [rs.len]; exact Nat.le_refl _⟩, fun H i d e hd => ?_, fun Ht H i d x H' e0 e hd y => ?_⟩
  · obtain ⟨v, hv, _⟩ := rs.at hd
    exact ⟨vs, v, e.t h, hv⟩
  · obtain ⟨rfl, y⟩ := y
    have hx := y vs (e.t (e0.t h))
    obtain ⟨d', hd', r⟩ := rs.atV hx
    rw [hd] at hd'; cases hd'
    exact ⟨Ht, Grow.refl e, r.mono e0⟩
theorem PI.or {tg e : Expr} {t t' : TI} (h : PI X tg e t) (h' : PI X tg e t') : PI X tg e (fun σ H R => t σ H R ∨ t' σ H R) := ⟨fun pins s σ H R I q => by
  rcases q with q | q
  · exact h.run pins s σ H R I q
  · exact h'.run pins s σ H R I q⟩
/-- a list or a tuple that is walked: which one is known before it is looked at -/
theorem pi_seq {e : Expr} {te : TE} (he : PE X e te) : PI X tg e (fun σ H R => te σ H fun x H1 => ∃ a, x = .ref a ∧ (((∃ xs, SqL X.K H1 a xs) ∧ R (Itl X.K a) H1) ∨ ((∃ xs, SqT X.K H1 a xs) ∧ R (Itt X.K a) H1))) := by
  refine ⟨fun pins s σ H R I h => ?_⟩
  refine thn (he.run pins s σ H _ I h) fun v s1 ⟨x, H1, I1, r1, a, ea, q⟩ => ?_
  subst ea
  cases r1
  rcases q with ⟨⟨xs, hq⟩, q⟩ | ⟨⟨xs, hq⟩, q⟩
  · obtain ⟨its, rv, p, hz⟩ := I1.list hq
    refine wpAny_pyIter_list p.isList ?_
    refine ⟨s1.heap.objs.size, [s1.heap.objs.size], _, _, H1, rfl, I1.kept (t' := s1.toks) fun b o e => Heap.get?_push_of_some _ e, turn_list a _, ⟨_, Heap.get?_push_size _ rfl, rfl, rfl⟩, fun b hb => ?_, q⟩
    have e : b = s1.heap.objs.size := by simpa using hb
    subst e
    exact I1.fpOk (Nat.le_refl _) (I1.hok.fresh (Nat.le_refl _))
  · obtain ⟨its, rv, p, hz⟩ := I1.tuple hq
    refine wpAny_pyIter_tuple (show s1.heap.IsTuple a its.toArray from p) ?_
    refine ⟨s1.heap.objs.size, [s1.heap.objs.size], _, _, H1, rfl, I1.kept (t' := s1.toks) fun b o e => Heap.get?_push_of_some _ e, turn_tuple a _, ⟨_, Heap.get?_push_size _ rfl, rfl, rfl⟩, fun b hb => ?_, q⟩
    have e : b = s1.heap.objs.size := by simpa using hb
    subst e
    exact I1.fpOk (Nat.le_refl _) (I1.hok.fresh (Nat.le_refl _))
theorem i_seq (he : PEM X g W e m) : PIM X g W tg e (itM m) := PI.imp (pi_seq he.d) fun σ H Q ⟨H0, s, R, q⟩ => by
  unfold itM at q
  rw [on_bind] at q
  refine ⟨H0, s, R, Out.on_imp q (fun r s1 q v H1 H2 e1 R1 rr => ?_) fun _ _ q => q⟩
  rw [on_opt] at q
  obtain ⟨ds, ed, q⟩ := q
  cases hd : r.d with
  | lst ds' =>
    rw [hd] at ed rr
    cases ed
    cases rr with
    | lst h l z => exact ⟨_, rfl, .inl ⟨⟨_, .of (R1.r0.sub _ _ h)⟩, q _ H1 H2 e1 R1 (walks_l h ⟨l, z⟩)⟩⟩
  | tup ds' =>
    rw [hd] at ed rr
    cases ed
    cases rr with
    | tup h l z => exact ⟨_, rfl, .inr ⟨⟨_, R1.r0.sub.t h⟩, q _ H1 H2 e1 R1 (walks_t h ⟨l, z⟩)⟩⟩
  | _ => rw [hd] at ed; cases ed
def rgL (lo hi : Int) : List D := (List.range (hi - lo).toNat).map fun i : Nat => D.int (lo + (i : Int))
theorem rgL_length (lo hi : Int) : (rgL lo hi).length = (hi - lo).toNat := by unfold rgL; simp
def rngD1 : List D → Option (List D)
  | [.int j] => if -(2 ^ 62) ≤ j ∧ j < 2 ^ 62 then some (rgL 0 j) else none
  | _ => none
def rngD2 : List D → Option (List D)
  | [.int i, .int j] => if -(2 ^ 62) ≤ i ∧ i < 2 ^ 62 ∧ -(2 ^ 62) ≤ j ∧ j < 2 ^ 62 then some (rgL i j) else none
  | _ => none
def rngM1 (ls : M β (List D)) : M β (List D) := mbind ls fun ds => opt (rngD1 ds)
def rngM2 (ls : M β (List D)) : M β (List D) := mbind ls fun ds => opt (rngD2 ds)
theorem walks_r {K : PySem.W.Frag} {bx : Addr} {H0 : Hp} {lo hi : Int} : Walks K bx (Itr lo (hi - lo).toNat) H0 (rgL lo hi) := by
  refine ⟨fun H e => by show (hi - lo).toNat ≤ (rgL lo hi).length; rw [rgL_length]; exact Nat.le_refl _, fun H i d e hd => ?_, fun Ht H i d x H' e0 e hd y => ?_⟩
  · have := (List.getElem?_eq_some_iff.mp hd).1
    rw [rgL_length] at this
    exact this
  · obtain ⟨rfl, rfl⟩ := y
    have hi' := (List.getElem?_eq_some_iff.mp hd).1
    rw [rgL_length] at hi'
    unfold rgL at hd
    rw [List.getElem?_map, List.getElem?_range hi'] at hd
    cases hd
    exact ⟨Ht, Grow.refl e, .int⟩
theorem i_range1 {p : Pos} (hm : X.mg "range" = none) (ha : PAM X g W [a] ls) (hg : Gl X "range" := by rfl) (hs : starEach [a] X.env = [(false, eval a X.env)] := by rfl) : PIM X g W tg (.Call (.Name "range" p) [a] [] pos) (rngM1 ls) := PI.imp (pi_range1 hg hm ha hs) fun σ H Q ⟨H0, s, R, q⟩ => by
  unfold rngM1 at q
  rw [on_bind] at q
  refine ⟨H0, s, R, Out.on_imp q (fun r s1 q v H1 H2 e1 R1 rr => ?_) fun _ _ q => q⟩
  rw [on_opt] at q
  obtain ⟨ds, ed, q⟩ := q
  unfold rngD1 at ed
  split at ed
  · rename_i j
    split at ed
    · rename_i hj
      cases ed
      obtain ⟨v, rfl, r⟩ := rr.cases1
      cases r
      refine ⟨j, rfl, hj.1, hj.2, q _ H1 H2 e1 R1 ?_⟩
      have := walks_r (K := X.K) (bx := g.bx) (H0 := H1) (lo := 0) (hi := j)
      simpa using this
    · cases ed
  · cases ed
theorem i_range2 {p : Pos} (hm : X.mg "range" = none) (ha : PAM X g W [a, b] ls) (hg : Gl X "range" := by rfl) (hs : starEach [a, b] X.env = [(false, eval a X.env), (false, eval b X.env)] := by rfl) (hs2 : starEach [b] X.env = [(false, eval b X.env)] := by rfl) : PIM X g W tg (.Call (.Name "range" p) [a, b] [] pos) (rngM2 ls) := PI.imp (pi_range2 hg hm ha hs hs2) fun σ H Q ⟨H0, s, R, q⟩ => by
  unfold rngM2 at q
  rw [on_bind] at q
  refine ⟨H0, s, R, Out.on_imp q (fun r s1 q v H1 H2 e1 R1 rr => ?_) fun _ _ q => q⟩
  rw [on_opt] at q
  obtain ⟨ds, ed, q⟩ := q
  unfold rngD2 at ed
  split at ed
  · rename_i i j
    split at ed
    · rename_i hj
      cases ed
      obtain ⟨v, u, rfl, r, r'⟩ := rr.cases2
      cases r; cases r'
      exact ⟨i, j, rfl, hj, q _ H1 H2 e1 R1 walks_r⟩
    · cases ed
  · cases ed
end
end DL

set_option Elab.async false
set_option linter.all false
set_option maxRecDepth 100000
namespace DL
open PySem PySem.Spec L2
/-! ### a list of one's own is changed -/
section
variable {β : Type} {K : PySem.W.Frag} {mg : Str → Option Value} {g : G β} {W : WX} {H0 H H0' H' : Hp} {σ : L2.St} {s s' : S β} {v : V} {r : RV}
theorem Rel.setO (R : Rel K g H0 σ H s) {i : Nat} {ds ds' : List D} {p : Addr} {vs' : List V} (hs : s.sl[i]? = some (.o ds)) (hσ : σ[i]? = some (some (.ref p))) (rs : Reps K g.bx H0 vs' ds') : Rel K g H0 σ (upd H p (.lst vs')) { s with sl := s.sl.set i (.o ds') } := by
  obtain ⟨p', vs, e1, hp, _, n0, nF, nb⟩ := R.slot i _ _ hs hσ
  cases e1
  have hl : i < s.sl.length := (List.getElem?_eq_some_iff.mp hs).1
  obtain ⟨o, hb, ib⟩ := R.r0.it
  refine ⟨⟨fun a u e => ?_, fun a u e => ?_, R.r0.dis, R.r0.bxn, R.r0.bxF, ⟨o, ?_, ib⟩, R.r0.tb.keep (fun _ _ _ h => h) (fun _ _ _ h => h) (.upd hp)⟩, by simpa using R.len, fun j k x h1 h2 => ?_, fun j l es es' q h1 h2 h3 h4 => ?_⟩
  · rw [upd_ne fun z => ?_]
    · exact R.r0.sub a u e
    · subst z; rw [n0] at e; cases e
  · rw [upd_ne fun z => ?_]
    · exact R.r0.frm a u e
    · subst z; rw [nF] at e; cases e
  · rw [upd_ne (Ne.symm nb)]; exact hb
  · have h1 : (s.sl.set i (.o ds'))[j]? = some k := h1
    by_cases hj : i = j
    · subst hj
      rw [List.getElem?_set_self hl] at h1
      rw [hσ] at h2
      cases h1; cases h2
      exact ⟨p, vs', rfl, upd_same, rs, n0, nF, nb⟩
    · rw [List.getElem?_set_ne hj] at h1
      have sr := R.slot j k x h1 h2
      cases k with
      | no => trivial
      | v d => exact sr
      | o es =>
        obtain ⟨q, ws, e2, hq, rest⟩ := sr
        refine ⟨q, ws, e2, ?_, rest⟩
        rw [upd_ne fun z => ?_]
        · exact hq
        · subst z; subst e2
          exact hj (R.dist i j ds es q hs h1 hσ h2)
  · have fix : ∀ {j : Nat} {es : List D}, (s.sl.set i (.o ds'))[j]? = some (.o es) → ∃ es', s.sl[j]? = some (.o es') := fun {j es} h => by
      by_cases hj : i = j
      · subst hj; exact ⟨ds, hs⟩
      · rw [List.getElem?_set_ne hj] at h; exact ⟨es, h⟩
    obtain ⟨a1, q1⟩ := fix h1
    obtain ⟨a2, q2⟩ := fix h2
    exact R.dist j l a1 a2 q q1 q2 h3 h4
theorem Rel.own_at (R : Rel K g H0 σ H s) {i : Nat} {ds : List D} (hs : s.sl[i]? = some (.o ds)) : ∃ p, σ[i]? = some (some (.ref p)) ∧ ∃ vs, H p = some (.lst vs) ∧ Reps K g.bx H0 vs ds ∧ H0 p = none := by
  have hi : i < σ.length := by rw [← R.len]; exact (List.getElem?_eq_some_iff.mp hs).1
  obtain ⟨p, vs, e1, hp, rs, n0, _⟩ := R.slot i _ σ[i] hs (by simp [hi])
  exact ⟨p, by simp [hi, e1], vs, hp, rs, n0⟩
def ownAt (i : Nat) : M β (List D) := fun s => match s.sl[i]? with
  | some (.o ds) => .ok ds s
  | _ => .bad
def putO (i : Nat) (ds : List D) : M β Unit := fun s => .ok () { s with sl := s.sl.set i (.o ds) }
theorem on_ownAt {i : Nat} {k : List D → S β → Prop} {e : Exc → S β → Prop} (h : (ownAt i s).on k e) : ∃ ds, s.sl[i]? = some (.o ds) ∧ k ds s := by
  unfold ownAt at h
  revert h
  split
  · rename_i ds q; exact fun h => ⟨ds, q, h⟩
  · exact fun h => h.elim
/-- o.m(..): f tells what comes back, and the list behind it -/
def metM (i : Nat) (f : List D → List D → Option (D × List D)) (ls : M β (List D)) : M β RV := mbind (ownAt i) fun _ => mbind ls fun as => mbind (ownAt i) fun ds => mbind (opt (f ds as)) fun q => mbind (putO i q.2) fun _ => mret (.v q.1)
def MetOk (K : PySem.W.Frag) (r : V → List V → Hp → VK → Prop) (f : List D → List D → Option (D × List D)) : Prop := ∀ bx H0 H l vs ds avs as d ds' Q, Ex H0 H → H l = some (.lst vs) → Reps K bx H0 vs ds → Reps K bx H0 avs as → f ds as = some (d, ds') →
  (∀ v vs', Rep K bx H0 v d → Reps K bx H0 vs' ds' → Q v (upd H l (.lst vs'))) → r (.ref l) avs H Q
theorem met_tE {r : V → List V → Hp → VK → Prop} {f : List D → List D → Option (D × List D)} {ls : M β (List D)} {i : Nat} {Q : VK} (ok : MetOk K r f) (h : tE K mg g W (metM i f ls) σ H Q) : tBM K "list" r (tVar i) (tA' K mg g W ls) σ H Q := by
  obtain ⟨H0, s, R, h⟩ := h
  unfold metM at h
  rw [on_bind] at h
  obtain ⟨ds0, hs, h⟩ := on_ownAt h
  obtain ⟨p, hσ, vs0, hp, _⟩ := R.own_at hs
  refine ⟨.ref p, hσ, .inl ⟨rfl, _, .of hp⟩, H0, s, R, ?_⟩
  rw [on_bind] at h
  refine Out.on_imp h (fun as s1 h avs H1 H2 e1 R1 ra => ?_) fun _ _ q => q
  rw [on_bind] at h
  obtain ⟨ds, hs1, h⟩ := on_ownAt h
  rw [on_bind, on_opt] at h
  obtain ⟨⟨d, ds'⟩, ef, h⟩ := h
  obtain ⟨p', hσ', vs, hp', rs, _⟩ := R1.own_at hs1
  rw [hσ] at hσ'; cases hσ'
  exact ok g.bx H1 H2 p vs ds avs as d ds' Q R1.r0.sub hp' rs ra ef fun v vs' rv rs' => h v H1 _ e1 (R1.setO hs1 hσ rs') rv trivial
theorem met0_tE {r : V → List V → Hp → VK → Prop} {f : List D → List D → Option (D × List D)} {i : Nat} {Q : VK} (ok : MetOk K r f) (h : tE K mg g W (metM i f (mret [])) σ H Q) : tBM0 K "list" r (tVar i) σ H Q := by
  obtain ⟨x, hx, ty, q⟩ := met_tE (mg := mg) (W := W) ok h
  refine ⟨x, hx, ty, ?_⟩
  obtain ⟨H0, s, R, q⟩ := q
  exact q [] H0 H (Ex.refl _) R .nil
end
section
variable {K : PySem.W.Frag}
def appendF : List D → List D → Option (D × List D)
  | ds, [d] => if ds.length < sizeLine then some (.non, ds ++ [d]) else none
  | _, _ => none
theorem ok_append : MetOk K rAppend appendF := fun bx H0 H l vs ds avs as d ds' Q sub hl rs ra e k => by
  unfold appendF at e
  split at e
  · split at e
    · rename_i hz
      cases e
      obtain ⟨v, rfl, r⟩ := ra.cases1
      exact ⟨l, vs, v, rfl, rfl, hl, by rw [rs.len]; exact hz, k _ _ .non (rs.append (.one r))⟩
    · cases e
  · cases e
def popF : List D → List D → Option (D × List D)
  | ds, [] => (ds[ds.length - 1]?).map fun d => (d, ds.dropLast)
  | _, _ => none
theorem ok_pop : MetOk K rPop popF := fun bx H0 H l vs ds avs as d ds' Q sub hl rs ra e k => by
  unfold popF at e
  split at e
  · rw [Option.map_eq_some_iff] at e
    obtain ⟨d', hd, e⟩ := e
    cases e
    obtain ⟨v, hv, rv⟩ := rs.at hd
    have := ra.cases_nil
    subst this
    refine ⟨l, vs, v, rfl, rfl, hl, by rw [rs.len]; exact hv, k v _ rv ?_⟩
    rw [List.dropLast_eq_take, List.dropLast_eq_take, ← rs.len]
    exact rs.take _
  · cases e
def popAtF : List D → List D → Option (D × List D)
  | ds, [.int i] => if -(2 ^ 63) ≤ i ∧ i < 2 ^ 63 then (seqIndex? i ds.length).bind fun k => (ds[k]?).map fun d => (d, ds.eraseIdx k) else none
  | _, _ => none
theorem Reps.erase {bx : Addr} {H : Hp} {vs : List V} {ds : List D} (rs : Reps K bx H vs ds) (k : Nat) : Reps K bx H (vs.eraseIdx k) (ds.eraseIdx k) := by
  rw [List.eraseIdx_eq_take_drop_succ, List.eraseIdx_eq_take_drop_succ]
  exact (rs.take _).append (rs.drop _)
theorem ok_popAt : MetOk K rPopAt popAtF := fun bx H0 H l vs ds avs as d ds' Q sub hl rs ra e k => by
  unfold popAtF at e
  split at e
  · rename_i i
    split at e
    · rename_i hi
      rw [Option.bind_eq_some_iff] at e
      obtain ⟨j, hj, e⟩ := e
      rw [Option.map_eq_some_iff] at e
      obtain ⟨d', hd, e⟩ := e
      cases e
      obtain ⟨v, hv, rv⟩ := rs.at hd
      obtain ⟨u, rfl, ru⟩ := ra.cases1
      cases ru
      exact ⟨l, vs, i, j, v, rfl, rfl, hl, hi.1, hi.2, by rw [rs.len]; exact hj, hv, k v _ rv (rs.erase j)⟩
    · cases e
  · cases e
def reverseF : List D → List D → Option (D × List D)
  | ds, [] => some (.non, ds.reverse)
  | _, _ => none
theorem ok_reverse : MetOk K rReverse reverseF := fun bx H0 H l vs ds avs as d ds' Q sub hl rs ra e k => by
  unfold reverseF at e
  split at e
  · cases e
    have := ra.cases_nil
    subst this
    exact ⟨l, vs, rfl, rfl, hl, k _ _ .non rs.reverse⟩
  · cases e
def clearF : List D → List D → Option (D × List D)
  | _, [] => some (.non, [])
  | _, _ => none
theorem ok_clear : MetOk K rClear clearF := fun bx H0 H l vs ds avs as d ds' Q sub hl rs ra e k => by
  unfold clearF at e
  split at e
  · cases e
    have := ra.cases_nil
    subst this
    exact ⟨l, vs, rfl, rfl, hl, k _ _ .non .nil⟩
  · cases e
def extendF : List D → List D → Option (D × List D)
  | ds, [.lst es] => if ds.length + es.length ≤ sizeLine then some (.non, ds ++ es) else none
  | _, _ => none
theorem ok_extend : MetOk K rExtend extendF := fun bx H0 H l vs ds avs as d ds' Q sub hl rs ra e k => by
  unfold extendF at e
  split at e
  · split at e
    · rename_i es hz
      cases e
      obtain ⟨v, rfl, r⟩ := ra.cases1
      cases r with
      | lst h l z => exact ⟨_, _, vs, _, rfl, rfl, hl, sub _ _ h, by rw [rs.len, l]; exact hz, k _ _ .non (rs.append ⟨l, z⟩)⟩
    · cases e
  · cases e
end
/-- which method of a list -/
structure Met (X : Cx) (name : Str) (f : List D → List D → Option (D × List D)) : Prop where
  ex : ∃ (id : String) (r : V → List V → Hp → VK → Prop), PySem.Slot "list" name id ∧ typeOf (.builtin id) = pure (.type "method_descriptor") ∧ MtR X id r ∧ MetOk X.K r f
section
variable {β : Type} {X : Cx} {g : G β} {W : WX} {a b c e o : Expr} {es : List Expr} {m : M β RV} {ls : M β (List D)} {pos cpos apos : Pos}
theorem m_append : Met X "append" appendF := ⟨_, _, PySem.F.slot_list_append, PySem.F.type_list_append, mt_append, ok_append⟩
theorem m_pop : Met X "pop" popF := ⟨_, _, PySem.F.slot_list_pop, PySem.F.type_list_pop, mt_pop, ok_pop⟩
theorem m_popAt : Met X "pop" popAtF := ⟨_, _, PySem.F.slot_list_pop, PySem.F.type_list_pop, mt_popAt, ok_popAt⟩
theorem m_reverse : Met X "reverse" reverseF := ⟨_, _, PySem.F.slot_list_reverse, PySem.F.type_list_reverse, mt_reverse, ok_reverse⟩
theorem m_clear : Met X "clear" clearF := ⟨_, _, PySem.F.slot_list_clear, PySem.F.type_list_clear, mt_clear, ok_clear⟩
theorem m_extend : Met X "extend" extendF := ⟨_, _, PySem.F.slot_list_extend, PySem.F.type_list_extend, mt_extend, ok_extend⟩
theorem e_met (i : Nat) {x name : Str} {p : Pos} {f : List D → List D → Option (D × List D)} (hm : Met X name f) (ha : PAM X g W (e :: es) ls) (hN : X.N[i]? = some x := by rfl) (hv : Vis X.env.scope x := by first | exact Or.inl rfl | exact Or.inr (Or.inl rfl) | exact Or.inr (Or.inr rfl)) (hd : (x == ("__debug__" : Str)) = false := by decide)
    (hcd : (x == ("__classdict__" : Str)) = false := by decide) (hbase : attributeBase (.Name x p) name X.env (eval (.Name x p) X.env) = eval (.Name x p) X.env := by rfl)
    (hfew : ((backTo cpos (starEach (e :: es) X.env)).all (fun x => !x.1) && (backToKw cpos (keywordEach [] X.env)).all (fun x => x.1.isSome)
      && decide ((e :: es).length + ([] : List Keyword).length + (if ([] : List Keyword).isEmpty then 0 else 1) < 30)) = true := by rfl)
    (hline : (apos.endLine == cpos.line) = true := by rfl) (hs : starEach (e :: es) X.env = (false, eval e X.env) :: starEach es X.env := by rfl) (hplain : (backTo cpos (starEach es X.env)).any (·.1) = false := by rfl) :
    PEM X g W (.Call (.Attribute (.Name x p) name apos) (e :: es) [] cpos) (metM i f ls) := by
  obtain ⟨id, r, sl, ty, mt, ok⟩ := hm.ex
  exact PE.imp (pe_bm PySem.F.plainAttrs_list sl ty mt (pe_var hN hv hd hcd) ha hbase hfew hline hs hplain) fun _ _ _ => met_tE ok
theorem e_met0 (i : Nat) {x name : Str} {p : Pos} {f : List D → List D → Option (D × List D)} (hm : Met X name f) (hN : X.N[i]? = some x := by rfl) (hv : Vis X.env.scope x := by first | exact Or.inl rfl | exact Or.inr (Or.inl rfl) | exact Or.inr (Or.inr rfl)) (hd : (x == ("__debug__" : Str)) = false := by decide)
    (hcd : (x == ("__classdict__" : Str)) = false := by decide) (hbase : attributeBase (.Name x p) name X.env (eval (.Name x p) X.env) = eval (.Name x p) X.env := by rfl)
    (hline : (apos.endLine == cpos.line) = true := by rfl) : PEM X g W (.Call (.Attribute (.Name x p) name apos) [] [] cpos) (metM i f (mret [])) := by
  obtain ⟨id, r, sl, ty, mt, ok⟩ := hm.ex
  exact PE.imp (pe_bm0 PySem.F.plainAttrs_list sl ty mt (pe_var hN hv hd hcd) hbase hline) fun _ _ _ => met0_tE (mg := X.mg) (W := W) ok
/-- xs[i] = e -/
def sixM (i : Nat) (me mi : M β RV) : M β Fl := mbind me fun r => mbind (ownAt i) fun _ => mbind mi fun y => mbind (ownAt i) fun ds => mbind (opt ((asI y.d).bind fun k => ixN ds.length k)) fun j => mbind (putO i (ds.set j r.d)) fun _ => mret .nx
theorem s_six (i : Nat) {x : Str} {p pos' : Pos} {me mi : M β RV} (he : PEM X g W e me) (hi : PEM X g W b mi) (hN : X.N[i]? = some x := by rfl) (hv : Vis X.env.scope x := by first | exact Or.inl rfl | exact Or.inr (Or.inl rfl) | exact Or.inr (Or.inr rfl)) (hd : (x == ("__debug__" : Str)) = false := by decide)
    (hcd : (x == ("__classdict__" : Str)) = false := by decide)
    (ha : ∀ v, assign (.Subscript (.Name x p) b pos') X.env v = (do
      let ov ← holding [v] (eval (.Name x p) X.env)
      let iv ← holding [v, ov] (eval b X.env)
      standAt pos'
      holding [v, ov, iv] (setItem ov iv v)
      release [v, ov, iv] []) := by intros; rfl)
    (hs : swapsWithSole [.Subscript (.Name x p) b pos'] e pos.line X.env = pure false := by rfl) (hw : swappedStores [.Subscript (.Name x p) b pos'] e X.env = pure none := by rfl)
    (h1 : (assignEach [.Subscript (.Name x p) b pos'] X.env).map (·.2) = [assign (.Subscript (.Name x p) b pos') X.env] := by rfl) : PSM X g W (.Assign [.Subscript (.Name x p) b pos'] e pos) (sixM i me mi) := PS.imp (ps_asg he.d (pg_sub (pe_var hN hv hd hcd) hi.d set_list ha) hs hw h1) fun D σ H ⟨H0, s, R, q⟩ => by
  unfold sixM at q
  rw [on_bind] at q
  refine ⟨H0, s, R, Out.on_imp q (fun r s1 q v H1 H2 e1 R1 rr => ?_) fun _ _ q => q.e⟩
  rw [on_bind] at q
  obtain ⟨ds0, hs1, q⟩ := on_ownAt q
  obtain ⟨p1, hσ, vs0, hp, _⟩ := R1.own_at hs1
  refine ⟨.ref p1, hσ, H1, s1, R1, ?_⟩
  rw [on_bind] at q
  refine Out.on_imp q (fun y s2 q u H3 H4 e2 R2 ru => ?_) fun _ _ q => (q.back e1).e
  rw [on_bind] at q
  obtain ⟨ds, hs2, q⟩ := on_ownAt q
  obtain ⟨p2, hσ2, vs, hp2, rs, _⟩ := R2.own_at hs2
  rw [hσ] at hσ2; cases hσ2
  rw [on_bind, on_opt] at q
  obtain ⟨j, ej, q⟩ := q
  rw [Option.bind_eq_some_iff] at ej
  obtain ⟨k, ek, ej⟩ := ej
  rw [asI_eq ek] at ru
  cases ru
  exact ⟨p1, vs, k, j, rfl, rfl, hp2, by rw [rs.len]; exact ej, q σ H3 _ (e1.trans e2) (R2.setO hs2 hσ (rs.set (rr.mono e2) j))⟩
end
end DL

set_option Elab.async false
set_option linter.all false
set_option maxRecDepth 100000
namespace DL
open PySem PySem.Spec L2
/-! ### comprehensions -/
def G.wF {β : Type} (g : G β) (F : Hp) : G β := { g with F := F }
def wipeS (sl : List Slot) : List Nat → List Slot
  | [] => sl
  | v :: vs => (wipeS sl vs).set v .no
def restS (sl0 sl1 : List Slot) : List Nat → List Slot
  | [] => sl1
  | v :: vs => (restS sl0 sl1 vs).set v (sl0.getD v .no)
def notO : Option Slot → Bool
  | some (.o _) => false
  | some _ => true
  | none => false
def wipeOk (sl : List Slot) (own : List Nat) : Bool := own.all fun i => notO sl[i]?
def W0 : WX := fun _ _ _ _ => False
section
variable {β : Type}
def lcL (own : List Nat) (t : D → M β Unit) (c : M β Bool) (e : M β RV) : List D → List D → M β (List D)
  | acc, [] => mret acc
  | acc, d :: ds => fun s => (mbind (noX (t d)) fun _ => mbind (noX c) fun k => mIte k (mbind (noX e) fun r => mIte (decide (acc.length < sizeLine)) (lcL own t c e (acc ++ [r.d]) ds) mbad) (lcL own t c e acc ds)) { s with sl := wipeS s.sl own }
def lcM (own : List Nat) (mi : M β (List D)) (t : D → M β Unit) (c : M β Bool) (e : M β RV) : M β RV := mbind mi fun ds => fun s => mIte (wipeOk s.sl own) (mbind (noX (lcL own t c e [] ds)) fun acc => fun s' => .ok (.o acc) { s' with sl := restS s.sl s'.sl own }) mbad s
end
theorem wipeS_length (sl : List Slot) : ∀ own, (wipeS sl own).length = sl.length
  | [] => rfl
  | v :: vs => by unfold wipeS; rw [List.length_set, wipeS_length sl vs]
theorem restS_length (sl0 sl1 : List Slot) : ∀ own, (restS sl0 sl1 own).length = sl1.length
  | [] => rfl
  | v :: vs => by unfold restS; rw [List.length_set, restS_length sl0 sl1 vs]
theorem wipeS_out (sl : List Slot) {j : Nat} : ∀ {own}, j ∉ own → (wipeS sl own)[j]? = sl[j]?
  | [], _ => rfl
  | v :: vs, h => by
    unfold wipeS
    rw [List.getElem?_set_ne fun e => h (by simp [e]), wipeS_out sl fun hm => h (by simp [hm])]
theorem wipeS_in (sl : List Slot) {j : Nat} (hj : j < sl.length) : ∀ {own}, j ∈ own → (wipeS sl own)[j]? = some .no
  | [], h => by simp at h
  | v :: vs, h => by
    unfold wipeS
    by_cases e : v = j
    · subst e; rw [List.getElem?_set_self (by rw [wipeS_length]; exact hj)]
    · rw [List.getElem?_set_ne e]
      exact wipeS_in sl hj (by simpa [Ne.symm e] using h)
theorem restS_out (sl0 sl1 : List Slot) {j : Nat} : ∀ {own}, j ∉ own → (restS sl0 sl1 own)[j]? = sl1[j]?
  | [], _ => rfl
  | v :: vs, h => by
    unfold restS
    rw [List.getElem?_set_ne fun e => h (by simp [e]), restS_out sl0 sl1 fun hm => h (by simp [hm])]
theorem restS_in (sl0 sl1 : List Slot) {j : Nat} (hj : j < sl1.length) : ∀ {own}, j ∈ own → (restS sl0 sl1 own)[j]? = some (sl0.getD j .no)
  | [], h => by simp at h
  | v :: vs, h => by
    unfold restS
    by_cases e : v = j
    · subst e; rw [List.getElem?_set_self (by rw [restS_length]; exact hj)]
    · rw [List.getElem?_set_ne e]
      exact restS_in sl0 sl1 hj (by simpa [Ne.symm e] using h)
theorem wipe_out (σ : L2.St) {j : Nat} : ∀ {own}, j ∉ own → (wipe σ own)[j]? = σ[j]?
  | [], _ => rfl
  | v :: vs, h => by
    unfold wipe
    rw [List.getElem?_set_ne fun e => h (by simp [e]), wipe_out σ fun hm => h (by simp [hm])]
theorem wipe_in (σ : L2.St) {j : Nat} (hj : j < σ.length) : ∀ {own}, j ∈ own → (wipe σ own)[j]? = some none
  | [], h => by simp at h
  | v :: vs, h => by
    unfold wipe
    by_cases e : v = j
    · subst e; rw [List.getElem?_set_self (by rw [wipe_length]; exact hj)]
    · rw [List.getElem?_set_ne e]
      exact wipe_in σ hj (by simpa [Ne.symm e] using h)
theorem wipe_but {σ σ' : L2.St} {own tgt : List Nat} (h : But tgt σ σ') (hs : ∀ i ∈ tgt, i ∈ own) : wipe σ' own = wipe σ own := by
  apply List.ext_getElem?
  intro j
  by_cases hj : j ∈ own
  · by_cases hl : j < σ.length
    · rw [wipe_in σ hl hj, wipe_in σ' (by rw [h.1]; exact hl) hj]
    · rw [List.getElem?_eq_none (by rw [wipe_length, h.1]; omega), List.getElem?_eq_none (by rw [wipe_length]; omega)]
  · rw [wipe_out σ hj, wipe_out σ' hj]
    exact h.2 j fun hm => hj (hs j hm)
theorem wipe_wipe (σ : L2.St) (own : List Nat) : wipe (wipe σ own) own = wipe σ own := by
  refine wipe_but (tgt := own) ⟨wipe_length _ _, fun j hj => wipe_out σ hj⟩ fun _ h => h
section
variable {β : Type} {K : PySem.W.Frag} {mg : Str → Option Value} {g : G β} {W : WX} {H0 H H0' H' : Hp} {σ σ' : L2.St} {s s' : S β} {v : V} {r : RV} {own : List Nat}
theorem Rel.wipe (R : Rel K g H0 σ H s) (own : List Nat) : Rel K g H0 (L2.wipe σ own) H { s with sl := wipeS s.sl own } := by
  have inn : ∀ {j : Nat} {k : Slot}, (wipeS s.sl own)[j]? = some k → j ∈ own → k = .no := fun {j k} h hj => by
    have hl : j < s.sl.length := by
      have := (List.getElem?_eq_some_iff.mp h).1
      rwa [wipeS_length] at this
    rw [wipeS_in s.sl hl hj] at h
    cases h; rfl
  refine ⟨R.r0, by show (wipeS s.sl own).length = _; rw [wipeS_length, L2.wipe_length]; exact R.len, fun j k x h1 h2 => ?_, fun j l ds es p h1 h2 h3 h4 => ?_⟩
  · have h1 : (wipeS s.sl own)[j]? = some k := h1
    by_cases hj : j ∈ own
    · rw [inn h1 hj]; trivial
    · rw [wipeS_out s.sl hj] at h1
      rw [wipe_out σ hj] at h2
      exact R.slot j k x h1 h2
  · have h1 : (wipeS s.sl own)[j]? = some (.o ds) := h1
    have h2 : (wipeS s.sl own)[l]? = some (.o es) := h2
    have hj : j ∉ own := fun h => by cases inn h1 h
    have hl : l ∉ own := fun h => by cases inn h2 h
    rw [wipeS_out s.sl hj] at h1
    rw [wipeS_out s.sl hl] at h2
    rw [wipe_out σ hj] at h3
    rw [wipe_out σ hl] at h4
    exact R.dist j l ds es p h1 h2 h3 h4
/-- a new list beside all is put into the frame -/
theorem Rel.hold (R : Rel K g H0 σ H s) {Dl : Addr} {vs : List V} (hD : H Dl = none) : Rel K (g.wF (upd g.F Dl (.lst vs))) H0 σ (upd H Dl (.lst vs)) s := by
  have R1 := R.more (Ex.new (o := .lst vs) hD)
  have n0 : H0 Dl = none := R.r0.sub.back hD
  have nb : Dl ≠ g.bx := fun z => by
    obtain ⟨o, hb, _⟩ := R.r0.it
    rw [z, hb] at hD; cases hD
  have tb : TabsR g.T g.bx (upd g.F Dl (.lst vs)) H0 (upd H Dl (.lst vs)) := R1.r0.tb.keep (fun q hq _ n => by
    rw [upd_ne fun y => ?_]
    · exact n
    · obtain ⟨_, _, _, ps2, z2, _⟩ := R.r0.tb q hq
      rw [y, hD] at z2; cases z2) (fun _ _ _ h => h) (.of (Ex.refl _))
  refine ⟨⟨R1.r0.sub, fun a o e => ?_, fun a o e => ?_, R1.r0.bxn, ?_, R1.r0.it, tb⟩, R1.len, fun i k x h1 h2 => ?_, R1.dist⟩
  · by_cases ha : a = Dl
    · subst ha
      have e : upd g.F a (.lst vs) a = some o := e
      rw [upd_same] at e ⊢; exact e
    · have e : upd g.F Dl (.lst vs) a = some o := e
      rw [upd_ne ha] at e; exact R1.r0.frm a o e
  · by_cases ha : a = Dl
    · subst ha; exact n0
    · have e : upd g.F Dl (.lst vs) a = some o := e
      rw [upd_ne ha] at e; exact R1.r0.dis a o e
  · show upd g.F Dl (.lst vs) g.bx = none
    rw [upd_ne (Ne.symm nb)]; exact R.r0.bxF
  · have sr := R1.slot i k x h1 h2
    have sr0 := R.slot i k x h1 h2
    cases k with
    | no => trivial
    | v d => exact sr
    | o ds =>
      obtain ⟨p, ws, e1, e2, rs, m0, mF, mb⟩ := sr
      obtain ⟨q, ws', e1', e2', _⟩ := sr0
      refine ⟨p, ws, e1, e2, rs, m0, ?_, mb⟩
      show upd g.F Dl (.lst vs) p = none
      rw [upd_ne fun z => ?_]
      · exact mF
      · subst z
        rw [e1'] at e1; cases e1
        rw [hD] at e2'; cases e2'
/-- .. it grows -/
theorem Rel.bump (R : Rel K (g.wF (upd g.F Dl (.lst vs))) H0 σ H s) (ws : List V) : Rel K (g.wF (upd g.F Dl (.lst ws))) H0 σ (upd H Dl (.lst ws)) s := by
  have hF : ∀ vs, (g.wF (upd g.F Dl (.lst vs))).F = upd g.F Dl (.lst vs) := fun _ => rfl
  have n0 : H0 Dl = none := R.r0.dis Dl (.lst vs) (by rw [hF, upd_same])
  have nb : Dl ≠ g.bx := fun z => by
    have := R.r0.bxF
    rw [hF] at this
    have this : upd g.F Dl (.lst vs) g.bx = none := this
    rw [← z, upd_same] at this; cases this
  obtain ⟨o, hb, ib⟩ := R.r0.it
  have tb : TabsR g.T g.bx (upd g.F Dl (.lst ws)) H0 (upd H Dl (.lst ws)) := R.r0.tb.keep (fun q hq _ n => by
    have n : upd g.F Dl (.lst vs) q.1 = none := n
    by_cases y : q.1 = Dl
    · rw [y, upd_same] at n; cases n
    · rw [upd_ne y] at n ⊢; exact n) (fun _ _ _ h => h) (.upd (R.r0.frm Dl (.lst vs) (by rw [hF, upd_same])))
  refine ⟨⟨fun a u e => ?_, fun a u e => ?_, fun a u e => ?_, R.r0.bxn, ?_, ⟨o, ?_, ib⟩, tb⟩, R.len, fun i k x h1 h2 => ?_, R.dist⟩
  · rw [upd_ne fun z => ?_]
    · exact R.r0.sub a u e
    · subst z; rw [n0] at e; cases e
  · have e : upd g.F Dl (.lst ws) a = some u := e
    by_cases ha : a = Dl
    · subst ha; rw [upd_same] at e ⊢; exact e
    · rw [upd_ne ha] at e ⊢
      exact R.r0.frm a u (by rw [hF, upd_ne ha]; exact e)
  · have e : upd g.F Dl (.lst ws) a = some u := e
    by_cases ha : a = Dl
    · subst ha; exact n0
    · rw [upd_ne ha] at e
      exact R.r0.dis a u (by rw [hF, upd_ne ha]; exact e)
  · show upd g.F Dl (.lst ws) g.bx = none
    have := R.r0.bxF
    rw [hF] at this
    have this : upd g.F Dl (.lst vs) g.bx = none := this
    rw [upd_ne (Ne.symm nb)] at this ⊢
    exact this
  · show upd H Dl (.lst ws) g.bx = some o
    rw [upd_ne (Ne.symm nb)]; exact hb
  · have sr := R.slot i k x h1 h2
    cases k with
    | no => trivial
    | v d => exact sr
    | o ds =>
      obtain ⟨p, us, e1, e2, rs, m0, mF, mb⟩ := sr
      have np : p ≠ Dl := fun z => by
        rw [hF, z, upd_same] at mF; cases mF
      rw [hF, upd_ne np] at mF
      exact ⟨p, us, e1, by rw [upd_ne np]; exact e2, rs, m0, by show upd g.F Dl (.lst ws) p = none; rw [upd_ne np]; exact mF, mb⟩
/-- .. and is let out of the frame -/
theorem Rel.free (R : Rel K (g.wF (upd g.F Dl (.lst vs))) H0 σ H s) (nF : g.F Dl = none) : Rel K g H0 σ H s ∧ H Dl = some (.lst vs) ∧ H0 Dl = none ∧ Dl ≠ g.bx ∧ ¬ Owned σ s.sl Dl := by
  have hF : (g.wF (upd g.F Dl (.lst vs))).F = upd g.F Dl (.lst vs) := rfl
  have n0 : H0 Dl = none := R.r0.dis Dl (.lst vs) (by rw [hF, upd_same])
  have nb : Dl ≠ g.bx := fun z => by
    have := R.r0.bxF
    rw [hF] at this
    have this : upd g.F Dl (.lst vs) g.bx = none := this
    rw [← z, upd_same] at this; cases this
  have up : ∀ a o, g.F a = some o → (g.wF (upd g.F Dl (.lst vs))).F a = some o := fun a o e => by
    rw [hF, upd_ne fun z => by subst z; rw [nF] at e; cases e]; exact e
  have dn : ∀ a, (g.wF (upd g.F Dl (.lst vs))).F a = none → g.F a = none := fun a h => by
    cases q : g.F a with
    | none => rfl
    | some o => rw [up a o q] at h; cases h
  refine ⟨⟨⟨R.r0.sub, fun a o e => R.r0.frm a o (up a o e), fun a o e => R.r0.dis a o (up a o e), R.r0.bxn, dn _ R.r0.bxF, R.r0.it, R.r0.tb.keep (fun q _ _ n => dn _ n) (fun _ _ _ h => h) (.of (Ex.refl _))⟩, R.len, fun i k x h1 h2 => ?_, R.dist⟩, R.r0.frm Dl _ (by rw [hF, upd_same]), n0, nb, fun h => ?_⟩
  · have sr := R.slot i k x h1 h2
    cases k with
    | no => trivial
    | v d => exact sr
    | o ds =>
      obtain ⟨p, us, e1, e2, rs, m0, mF, mb⟩ := sr
      exact ⟨p, us, e1, e2, rs, m0, dn p mF, mb⟩
  · obtain ⟨_, _, _, mF, _⟩ := R.own h
    rw [hF, upd_same] at mF; cases mF
/-- the block's end: the own slots as they were -/
theorem Rel.rest {s0 : S β} {Ha Hb : Hp} (R : Rel K g H0 (L2.wipe σ own) H { s with sl := wipeS s.sl own }) (R0 : Rel K g Ha σ Hb s0) (e0 : Ex Ha H0) (ok : wipeOk s0.sl own = true) : Rel K g H0 σ H { s with sl := restS s0.sl s.sl own } := by
  have hok : ∀ j ∈ own, notO s0.sl[j]? = true := fun j hj => List.all_eq_true.mp ok j hj
  have hlen : s.sl.length = σ.length := by
    have := R.len
    have this : (wipeS s.sl own).length = (L2.wipe σ own).length := this
    rwa [wipeS_length, L2.wipe_length] at this
  have inn : ∀ {j : Nat} {k : Slot}, (restS s0.sl s.sl own)[j]? = some k → j ∈ own → s0.sl[j]? = some k ∧ ∀ ds, k ≠ .o ds := fun {j k} h hj => by
    have hl : j < s.sl.length := by
      have := (List.getElem?_eq_some_iff.mp h).1
      rwa [restS_length] at this
    rw [restS_in s0.sl s.sl hl hj] at h
    have h0 := hok j hj
    cases q : s0.sl[j]? with
    | none => rw [q] at h0; cases h0
    | some k0 =>
      have : s0.sl.getD j .no = k0 := by rw [List.getD_eq_getElem?_getD, q]; rfl
      rw [this] at h
      cases h
      refine ⟨rfl, fun ds z => ?_⟩
      subst z
      rw [q] at h0; cases h0
  refine ⟨R.r0, by show (restS s0.sl s.sl own).length = _; rw [restS_length]; exact hlen, fun j k x h1 h2 => ?_, fun j l ds es p h1 h2 h3 h4 => ?_⟩
  · have h1 : (restS s0.sl s.sl own)[j]? = some k := h1
    by_cases hj : j ∈ own
    · obtain ⟨h1, no⟩ := inn h1 hj
      have sr := R0.slot j k x h1 h2
      cases k with
      | no => trivial
      | v d => obtain ⟨y, e1, r⟩ := sr; exact ⟨y, e1, r.mono e0⟩
      | o ds => exact absurd rfl (no ds)
    · rw [restS_out s0.sl s.sl hj] at h1
      exact R.slot j k x (by show (wipeS s.sl own)[j]? = some k; rw [wipeS_out s.sl hj]; exact h1) (by rw [wipe_out σ hj]; exact h2)
  · have h1 : (restS s0.sl s.sl own)[j]? = some (.o ds) := h1
    have h2 : (restS s0.sl s.sl own)[l]? = some (.o es) := h2
    have hj : j ∉ own := fun h => (inn h1 h).2 ds rfl
    have hl : l ∉ own := fun h => (inn h2 h).2 es rfl
    rw [restS_out s0.sl s.sl hj] at h1
    rw [restS_out s0.sl s.sl hl] at h2
    exact R.dist j l ds es p (by show (wipeS s.sl own)[j]? = _; rw [wipeS_out s.sl hj]; exact h1) (by show (wipeS s.sl own)[l]? = _; rw [wipeS_out s.sl hl]; exact h2) (by rw [wipe_out σ hj]; exact h3) (by rw [wipe_out σ hl]; exact h4)
end
section
variable {β : Type} {K : PySem.W.Frag} {mg : Str → Option Value} {g : G β} {W : WX} {own tgt : List Nat} {mi : M β (List D)} {t : D → M β Unit} {c : M β Bool} {e : M β RV}
def tGF (K : PySem.W.Frag) (g : G β) (tgt : List Nat) (t : D → M β Unit) : TG := fun v σ H Q => ∃ F, tG K (g.wF F) tgt t v σ H Q
def tTF (K : PySem.W.Frag) (mg : Str → Option Value) (g : G β) (m : M β Bool) : TT := fun σ H Q => ∃ F, tT' K mg (g.wF F) W0 m σ H Q
def tEF (K : PySem.W.Frag) (mg : Str → Option Value) (g : G β) (m : M β RV) : TE := fun σ H Q => ∃ F, tD K mg (g.wF F) W0 m σ H Q
theorem rep_wF {bx : Addr} {F : Hp} : (g.wF F).bx = g.bx := rfl
theorem lc_tE {σ : L2.St} {H : Hp} {Q : VK} (hs : ∀ i ∈ tgt, i ∈ own) (h : tE K mg g W (lcM own mi t c e) σ H Q) : tLc (tI K mg g W mi) (tGF K g tgt t) (tTF K mg g c) (tEF K mg g e) own σ H Q := by
  obtain ⟨H0, s, R, h⟩ := h
  unfold lcM at h
  rw [on_bind] at h
  refine ⟨H0, s, R, Out.on_imp h (fun ds s1 h J H1 H2 e1 R1 wk Dl hD => ?_) fun _ _ q => q⟩
  cases ok : wipeOk s1.sl own with
  | false => rw [ok] at h; exact h.elim
  | true =>
  rw [ok] at h
  have h : (mbind (noX (lcL own t c e [] ds)) (fun acc => fun s' => Out.ok (RV.o acc) { s' with sl := restS s1.sl s'.sl own }) s1).on _ _ := h
  rw [on_bind] at h
  have h := on_noX (e' := fun _ _ => False) h
  have nF : g.F Dl = none := R1.r0.frm.back hD
  have Rw := (R1.wipe own).hold (vs := []) hD
  refine ⟨fun i k H => i + k = ds.length ∧ ∃ accD accV Ht s', Ex H1 Ht ∧ Rel K (g.wF (upd g.F Dl (.lst accV))) Ht (L2.wipe σ own) H { s' with sl := wipeS s'.sl own } ∧ Reps K g.bx Ht accV accD ∧
      (lcL own t c e accD (ds.drop i) s').on (fun acc s' => ∀ v H0' H', Ex H0 H0' → Rel K g H0' σ H' { s' with sl := restS s1.sl s'.sl own } → ResR K g H0' H' v (.o acc) → Apart σ (restS s1.sl s'.sl own) v (.o acc) → Q v H') (fun _ _ => False),
    ⟨ds.length, by simp, [], [], H1, s1, Ex.refl _, Rw, .nil, h⟩, ?_⟩
  rintro i k H ⟨hk, accD, accV, Ht, s', et, Rt, ra, h⟩
  by_cases hlt : i < ds.length
  · have sub := Rt.r0.sub
    refine .inr ⟨wk.go H i ds[i] (et.trans sub) (by simp [hlt]), fun H' => ∃ accD accV Ht s', Ex H1 Ht ∧ Rel K (g.wF (upd g.F Dl (.lst accV))) Ht (L2.wipe σ own) H' { s' with sl := wipeS s'.sl own } ∧ Reps K g.bx Ht accV accD ∧
      (lcL own t c e accD (ds.drop (i + 1)) s').on (fun acc s' => ∀ v H0' H', Ex H0 H0' → Rel K g H0' σ H' { s' with sl := restS s1.sl s'.sl own } → ResR K g H0' H' v (.o acc) → Apart σ (restS s1.sl s'.sl own) v (.o acc) → Q v H') (fun _ _ => False),
      fun H' h => ⟨k - 1, by omega, by omega, h⟩, fun x H' y => ?_⟩
    obtain ⟨H4, gr, rx⟩ := wk.yld Ht H i ds[i] x H' et sub (by simp [hlt]) y
    have R4 := Rt.grow gr.e0 gr.e gr.sub gr.new
    rw [show ds.drop i = ds[i] :: ds.drop (i + 1) from List.drop_eq_getElem_cons hlt] at h
    have h : (mbind (noX (t ds[i])) (fun _ => mbind (noX c) fun k => mIte k (mbind (noX e) fun r => mIte (decide (accD.length < sizeLine)) (lcL own t c e (accD ++ [r.d]) (ds.drop (i + 1))) mbad) (lcL own t c e accD (ds.drop (i + 1)))) { s' with sl := wipeS s'.sl own }).on _ _ := h
    rw [on_bind] at h
    refine ⟨_, H4, _, ds[i], R4, rx, Out.on_imp (on_noX h) (fun _ s5 h σ5 H5 H6 b5 e5 R5 => ?_) fun _ _ q => q⟩
    have ew : L2.wipe σ5 own = L2.wipe σ own := (wipe_but b5 hs).trans (wipe_wipe σ own)
    refine ⟨ew, ?_⟩
    rw [on_bind] at h
    refine ⟨_, H5, s5, R5, Out.on_imp (on_noX h) (fun kk s6 h H7 H8 e7 R7 => ?_) fun _ _ q => q⟩
    cases kk with
    | true =>
      rw [if_pos rfl]
      have h : (mbind (noX e) (fun r => mIte (decide (accD.length < sizeLine)) (lcL own t c e (accD ++ [r.d]) (ds.drop (i + 1))) mbad) s6).on _ _ := h
      rw [on_bind] at h
      refine ⟨_, H7, s6, R7, Out.on_imp (on_noX h) (fun r s7 h z H9 Hx e9 R9 rz => ?_) fun _ _ q => q⟩
      cases hz : decide (accD.length < sizeLine) with
      | false => rw [hz] at h; exact h.elim
      | true =>
        rw [hz] at h
        have e49 : Ex Ht H9 := ((gr.e0.trans e5).trans e7).trans e9
        refine ⟨accV, R9.r0.frm Dl _ (by show upd g.F Dl (.lst accV) Dl = _; rw [upd_same]), by rw [ra.len]; exact of_decide_eq_true hz, accD ++ [r.d], accV ++ [z], H9, s7, et.trans e49, ?_, (ra.mono e49).append (.one rz), h⟩
        have Rb := (R9.wipe own).bump (accV ++ [z])
        rw [ew] at Rb
        exact Rb
    | false =>
      rw [if_neg Bool.false_ne_true]
      have e47 : Ex Ht H7 := (gr.e0.trans e5).trans e7
      have Rb := R7.wipe own
      rw [ew] at Rb
      exact ⟨accD, accV, H7, s6, et.trans e47, Rb, ra.mono e47, h⟩
  · have ei : i = ds.length := by omega
    subst ei
    rw [List.drop_length] at h
    have h : ∀ v H0' H', Ex H0 H0' → Rel K g H0' σ H' { s' with sl := restS s1.sl s'.sl own } → ResR K g H0' H' v (.o accD) → Apart σ (restS s1.sl s'.sl own) v (.o accD) → Q v H' := h
    obtain ⟨Rf, hDl, n0, nb, no⟩ := Rt.free nF
    have Rr := Rf.rest R1 et ok
    refine .inl ⟨wk.stop H (et.trans Rt.r0.sub), h (.ref Dl) Ht H (e1.trans et) Rr ⟨Dl, accV, rfl, hDl, ra, n0, nF, nb⟩ fun j es p ep h1 h2 => ?_⟩
    cases ep
    have z := Rr.slot j _ _ h1 h2
    obtain ⟨q, ws, eq, _, _, _, _, _⟩ := z
    cases eq
    by_cases hj : j ∈ own
    · have hl : j < s'.sl.length := by
        have := (List.getElem?_eq_some_iff.mp h1).1
        rwa [restS_length] at this
      rw [restS_in s1.sl s'.sl hl hj] at h1
      have h0 : notO s1.sl[j]? = true := List.all_eq_true.mp ok j hj
      cases q : s1.sl[j]? with
      | none => rw [q] at h0; cases h0
      | some k0 =>
        have : s1.sl.getD j .no = k0 := by rw [List.getD_eq_getElem?_getD, q]; rfl
        rw [this] at h1
        cases h1
        rw [q] at h0; cases h0
    · rw [restS_out s1.sl s'.sl hj] at h1
      exact no ⟨j, es, by show (wipeS s'.sl own)[j]? = _; rw [wipeS_out s'.sl hj]; exact h1, by rw [wipe_out σ hj]; exact h2⟩
end
section
variable {β : Type} {X : Cx} {g : G β} {W : WX} {own : List (Str × Nat)} {tgt : List Nat} {elt tg iter : Expr} {ifs : List Expr} {scope : Scope} {pos : Pos} {mi : M β (List D)} {t : D → M β Unit} {c : M β Bool} {e : M β RV}
abbrev BlkG (X : Cx) (g : G β) (scope : Scope) (tgt : List Nat) (tg : Expr) (t : D → M β Unit) : Prop := ∀ (F : Hp) (s : Shared) (H : Hp) (C : Addr) (cl : List (Str × Addr)) (fp : List Addr), PGM (X.blk s H scope (compEnvC scope cl C X.env) fp) (g.wF F) tgt tg t
abbrev BlkT (X : Cx) (g : G β) (scope : Scope) (ifs : List Expr) (c : M β Bool) : Prop := ∀ (F : Hp) (s : Shared) (H : Hp) (C : Addr) (cl : List (Str × Addr)) (fp : List Addr), PTs (X.blk s H scope (compEnvC scope cl C X.env) fp) ifs (tT' X.K X.mg (g.wF F) W0 c)
abbrev BlkE (X : Cx) (g : G β) (scope : Scope) (elt : Expr) (e : M β RV) : Prop := ∀ (F : Hp) (s : Shared) (H : Hp) (C : Addr) (cl : List (Str × Addr)) (fp : List Addr), PEM (X.blk s H scope (compEnvC scope cl C X.env) fp) (g.wF F) W0 elt e
theorem pg_F {X' : Cx} {tg : Expr} (h : ∀ F, PG X' tg (tG X'.K (g.wF F) tgt t)) : PG X' tg (tGF X'.K g tgt t) := ⟨fun pins s σ H v u Q I r ⟨F, q⟩ => (h F).run pins s σ H v u Q I r q⟩
theorem pe_F {X' : Cx} {e' : Expr} (h : ∀ F, PE X' e' (tD X'.K X'.mg (g.wF F) W0 e)) : PE X' e' (tEF X'.K X'.mg g e) := ⟨fun pins s σ H Q I ⟨F, q⟩ => (h F).run pins s σ H Q I q⟩
theorem pts_F {X' : Cx} {ifs : List Expr} (h : ∀ F, PTs X' ifs (tT' X'.K X'.mg (g.wF F) W0 c)) : PTs X' ifs (tTF X'.K X'.mg g c) := ⟨fun pins s σ H Q I ⟨F, q⟩ => (h F).run pins s σ H Q I q⟩
theorem PTs.imp {X : Cx} {ifs : List Expr} {t t' : TT} (h : PTs X ifs t) (i : ∀ σ H Q, t' σ H Q → t σ H Q) : PTs X ifs t' := ⟨fun pins s σ H Q I q => h.run pins s σ H Q I (i σ H Q q)⟩
theorem bt_nil : BlkT X g scope [] (mret true) := fun F s H C cl fp => PTs.imp pts_nil fun σ H Q ⟨H0, s, R, q⟩ => q H0 H (Ex.refl _) R
theorem bt_one {a : Expr} (h : ∀ (F : Hp) (s : Shared) (H : Hp) (C : Addr) (cl : List (Str × Addr)) (fp : List Addr), PTM (X.blk s H scope (compEnvC scope cl C X.env) fp) (g.wF F) W0 a c) : BlkT X g scope [a] c := fun F s H C cl fp => pts_one (h F s H C cl fp)
theorem e_lc (own : List (Str × Nat)) (hN : X.N.Nodup) (hi : PIM X g W tg iter mi) (hg : BlkG X g scope tgt tg t) (ht : BlkT X g scope ifs c) (he : BlkE X g scope elt e) (hc : X.calm = true := by rfl) (ok : BlkOk X.N X.env.scope scope own := by exact blkOk_by (by decide +kernel)) (hs : ∀ i ∈ tgt, i ∈ own.map (·.2) := by decide) (hf : ∀ x, foldedSetIterable iter X.env x = pure x := by intro _; rfl) :
    PEM X g W (.ListComp elt [⟨tg, iter, ifs, 0⟩] scope pos) (lcM (own.map (·.2)) mi t c e) :=
  PE.imp (pe_lc hc hN hi ok (fun s H C cl fp => pg_F fun F => hg F s H C cl fp) (fun s H C cl fp => pts_F fun F => ht F s H C cl fp) (fun s H C cl fp => pe_F fun F => (he F s H C cl fp).d) hf) fun σ H Q h => lc_tE hs h
end
end DL

set_option Elab.async false
set_option linter.all false
set_option maxRecDepth 100000
namespace DL
open PySem PySem.Spec L2
/-! ### what a def promises -/
/-- what is asked of the meaning of the box's content -/
class GOk (γ : Type) where
  ok : PySem.W.Frag → (Hp → γ → HO → Prop) → List (Addr × Str) → Prop
instance : GOk Unit := ⟨fun _ _ _ => True⟩
def spOf {γ : Type} [GOk γ] (K : PySem.W.Frag) (mg : Str → Option Value) (n : Nat) (m : DefM γ) : Sp := fun vs H Q E => ∃ (g : G γ) (H0 : Hp) (b : γ) (ds : List D), GOk.ok K g.itp g.T ∧ ds.length = n ∧ Rel0 g H0 H b ∧ Reps K g.bx H0 vs ds ∧ (m ds b).on
  (fun r b' => ∀ v H0' H', Ex H0 H0' → Rel0 g H0' H' b' → ResR K g H0' H' v r → Q v H') (fun x b' => ∀ c dd H0' H', Ex H0 H0' → Rel0 g H0' H' b' → XRep K mg g.bx H0' H' c dd x → E c dd H')
theorem spOf_len {γ : Type} [GOk γ] {K : PySem.W.Frag} {mg : Str → Option Value} {n : Nat} {m : DefM γ} (vs : List V) (H : Hp) (Q : VK) (E : XK) (h : spOf K mg n m vs H Q E) : vs.length = n := by
  obtain ⟨g, H0, b, ds, _, hn, _, rs, _⟩ := h
  rw [rs.len, hn]
/-- a def's body, run on n slots -/
def runDef {γ : Type} (n : Nat) (mb : M γ Fl) : DefM γ := fun ds b => match mb ⟨ds.map Slot.v ++ List.replicate (n - ds.length) Slot.no, b⟩ with
  | .ok .nx s => .ok (.v .non) s.bx
  | .ok (.rt r) s => .ok r s.bx
  | .exc x s => .exc x s.bx
  | _ => .bad
section
variable {γ : Type} {P : Program} {w : World} {K : PySem.W.Frag} {mg : Str → Option Value} {base : Heap}
theorem start_rel {g : G γ} {H0 H : Hp} {b : γ} {N : List Str} {vs : List V} {ds : List D} (r0 : Rel0 g H0 H b) (rs : Reps K g.bx H0 vs ds) : Rel K g H0 (L2.start N vs) H ⟨ds.map Slot.v ++ List.replicate (N.length - ds.length) Slot.no, b⟩ := by
  refine ⟨r0, by unfold L2.start; simp [rs.len], fun i k x h1 h2 => ?_, fun i j es es' p h1 => ?_⟩
  · unfold L2.start at h2
    by_cases hi : i < ds.length
    · rw [List.getElem?_append_left (by simpa using hi), List.getElem?_map] at h1
      rw [List.getElem?_append_left (by rw [List.length_map, rs.len]; exact hi), List.getElem?_map] at h2
      rw [Option.map_eq_some_iff] at h1 h2
      obtain ⟨d, hd, rfl⟩ := h1
      obtain ⟨v, hv, rfl⟩ := h2
      exact ⟨v, rfl, rs.get i v d hv hd⟩
    · rw [List.getElem?_append_right (by simpa using hi)] at h1
      have : k = .no := by
        have := List.mem_of_getElem? h1
        exact (List.mem_replicate.mp this).2
      subst this; trivial
  · exfalso
    by_cases hi : i < ds.length
    · have h1 : (ds.map Slot.v ++ List.replicate (N.length - ds.length) Slot.no)[i]? = some (.o es) := h1
      rw [List.getElem?_append_left (by simpa using hi), List.getElem?_map, Option.map_eq_some_iff] at h1
      obtain ⟨d, _, e⟩ := h1
      cases e
    · have h1 : (ds.map Slot.v ++ List.replicate (N.length - ds.length) Slot.no)[i]? = some (.o es) := h1
      rw [List.getElem?_append_right (by simpa using hi)] at h1
      have := List.mem_of_getElem? h1
      cases (List.mem_replicate.mp this).2
theorem body_ok {g : G γ} {H0 H : Hp} {b : γ} {N : List Str} {vs : List V} {ds : List D} {mb : M γ Fl} {Q : VK} {E : XK} (r0 : Rel0 g H0 H b) (rs : Reps K g.bx H0 vs ds)
    (h : (runDef N.length mb ds b).on (fun r b' => ∀ v H0' H', Ex H0 H0' → Rel0 g H0' H' b' → ResR K g H0' H' v r → Q v H') (fun x b' => ∀ c dd H0' H', Ex H0 H0' → Rel0 g H0' H' b' → XRep K mg g.bx H0' H' c dd x → E c dd H')) :
    tS K mg g (fun c d _ H => E c d H) mb { nx := fun _ H' => Q .non H', rt := Q } (L2.start N vs) H := by
  refine ⟨H0, _, start_rel r0 rs, ?_⟩
  unfold runDef at h
  revert h
  cases mb ⟨ds.map Slot.v ++ List.replicate (N.length - ds.length) Slot.no, b⟩ with
  | bad => exact fun h => h
  | exc x s => exact fun h c dd σ' H0' H' e R X => h c dd H0' H' e R.r0 X
  | ok f s =>
    cases f with
    | nx => exact fun h σ' H0' H' e R => h .non H0' H' e R.r0 .non
    | rt r => exact fun h v σ' H0' H' e R rr => h v H0' H' e R.r0 rr
    | bk => exact fun h => h.elim
    | ct => exact fun h => h.elim
/-- a def as a caller knows it: its text, its place, its promise -/
structure Df [GOk γ] (P : Program) (w : World) (K : PySem.W.Frag) (mg : Str → Option Value) (base : Heap) (k : Nat) (x : Str) (st : Stmt) (ps : List Str) (dvs : List V) (kws : List (Str × V)) (f : Addr) (fd : FuncData) (m : DefM γ) : Prop where
  fn : FunD K x x (defArgs st) (defBody st) (defScope st) dvs kws f fd
  gl : mg x = some (.ref f)
  ok : FnOk P w K mg base (L2N.CX P w) k f fd ps (spOf K mg ps.length m)
theorem df_mk [GOk γ] {x : Str} {st : Stmt} {ps N : List Str} {dvs : List V} {kws : List (Str × V)} {f : Addr} {fd : FuncData} {k : Nat} {mb : M γ Fl} (F : FunD K x x (defArgs st) (defBody st) (defScope st) dvs kws f fd) (gl : mg x = some (.ref f)) (S : FnScope N ps (defScope st))
    (hb : ∀ (cdv : Value) (A : Around) (outer : List Env) (s : Shared) (H : Hp) (E : XK) (g : G γ), GOk.ok K g.itp g.T → Room k (A.deeper (PyProof.Rows.envOfC x (defScope st) s.heap.objs.size f cdv)) → PSSM (cxOf (L2N.CX P w) P w K mg base N x (defScope st) f cdv A outer s H E) g (fun c d _ H => E c d H) (defBody st) mb) :
    Df P w K mg base (k + 1) x st ps dvs kws f fd (runDef N.length mb) :=
  ⟨F, gl, F.ok S (fun vs H Q E h => spOf_len vs H Q E h) fun cdv A outer s H vs Q E hr ⟨g, H0, b, ds, hG, hn, r0, rs, h⟩ => ⟨_, hb cdv A outer s H E g hG hr, body_ok r0 rs h⟩⟩
theorem Df.mono [GOk γ] {x : Str} {st : Stmt} {ps : List Str} {dvs : List V} {kws : List (Str × V)} {f : Addr} {fd : FuncData} {k k' : Nat} {m : DefM γ} (d : Df P w K mg base k x st ps dvs kws f fd m) (h : k ≤ k') : Df P w K mg base k' x st ps dvs kws f fd m := ⟨d.fn, d.gl, d.ok.mono h⟩
end
/-! ### calls -/
section
variable {β : Type} {K : PySem.W.Frag} {mg : Str → Option Value} {g : G β} {W : WX} {H0 H H0' H' : Hp} {σ : L2.St} {s s' : S β} {v : V} {r : RV} {vs : List V} {as : List Arg} {ds : List D} {n : Nat} {Q : VK}
theorem Rel.step {b' : β} (R : Rel K g H0 σ H s) (e0 : Ex H0 H0') (e : ∀ a o, a ≠ g.bx → a ∉ g.T.map (·.1) → H a = some o → H' a = some o) (sub : Ex H0' H') (new : ∀ a o, H0' a = some o → H0 a = some o ∨ H a = none) (it : ∃ o, H' g.bx = some o ∧ g.itp H0' b' o) (tb : TabsR g.T g.bx g.F H0' H') : Rel K g H0' σ H' { s with bx := b' } := by
  have back : ∀ a, H0 a = none → H a ≠ none → H0' a = none := fun a n h => by
    cases q : H0' a with
    | none => rfl
    | some o =>
      rcases new a o q with z | z
      · rw [z] at n; cases n
      · exact absurd z h
  obtain ⟨o, hb, ib⟩ := R.r0.it
  have nT : ∀ a o, g.F a = some o → a ∉ g.T.map (·.1) := fun a o h hm => by
    obtain ⟨p, hp, ep⟩ := List.mem_map.mp hm
    obtain ⟨_, n2, _⟩ := R.r0.tb p hp
    rw [ep, h] at n2; cases n2
  refine ⟨⟨sub, fun a o h => e a o (fun z => by rw [z, R.r0.bxF] at h; cases h) (nT a o h) (R.r0.frm a o h), fun a o h => back a (R.r0.dis a o h) (by rw [R.r0.frm a o h]; simp), back _ R.r0.bxn (by rw [hb]; simp), R.r0.bxF, it, tb⟩, R.len, fun i k x h1 h2 => ?_, R.dist⟩
  have sr := R.slot i k x h1 h2
  cases k with
  | no => trivial
  | v d => obtain ⟨y, e1, r⟩ := sr; exact ⟨y, e1, r.mono e0⟩
  | o ds =>
    obtain ⟨p, vs, e1, e2, rs, n0, nF, nb⟩ := sr
    have np : p ∉ g.T.map (·.1) := fun hm => by
      obtain ⟨q, hq, ep⟩ := List.mem_map.mp hm
      obtain ⟨_, _, _, ps, z, _⟩ := R.r0.tb q hq
      rw [ep, e2] at z; cases z
    exact ⟨p, vs, e1, e p _ nb np e2, rs.mono e0, back p n0 (by rw [e2]; simp), nF, nb⟩
/-- all but the tables -/
def frameT (T : List (Addr × Str)) (F : Hp) : Hp := fun a => if a ∈ T.map (·.1) then none else F a
theorem frameT_nil {F : Hp} : frameT [] F = F := by funext a; unfold frameT; simp
theorem frameT_at {T : List (Addr × Str)} {F : Hp} {a : Addr} (h : a ∉ T.map (·.1)) : frameT T F a = F a := if_neg h
theorem frameT_sub {T : List (Addr × Str)} {F : Hp} : Ex (frameT T F) F := fun a o h => by
  unfold frameT at h
  split at h
  · cases h
  · exact h
theorem frameT_in {T : List (Addr × Str)} {F : Hp} {a : Addr} (h : a ∈ T.map (·.1)) : frameT T F a = none := if_pos h
/-- what a callee must leave as it is: all that it is not shown -/
def frameOf (bx : Addr) (Hv H : Hp) : Hp := fun a => if a = bx then none else if (Hv a).isSome = true then none else H a
theorem frameOf_sub {bx : Addr} {Hv H : Hp} : Ex (frameOf bx Hv H) H := fun a o h => by
  unfold frameOf at h
  split at h
  · cases h
  · split at h
    · cases h
    · exact h
theorem frameOf_dis {bx : Addr} {Hv H : Hp} (a : Addr) (o : HO) (h : frameOf bx Hv H a = some o) : Hv a = none := by
  unfold frameOf at h
  split at h
  · cases h
  · split at h
    · cases h
    · rename_i h2
      cases q : Hv a with
      | none => rfl
      | some u => rw [q] at h2; exact absurd rfl h2
theorem frameOf_bx {bx : Addr} {Hv H : Hp} : frameOf bx Hv H bx = none := by unfold frameOf; rw [if_pos rfl]
theorem frameOf_at {bx : Addr} {Hv H : Hp} {a : Addr} (h1 : a ≠ bx) (h2 : Hv a = none) : frameOf bx Hv H a = H a := by
  unfold frameOf
  rw [if_neg h1, h2]
  rfl
theorem frameOf_keep {bx : Addr} {Hv H Hv' H' : Hp} (sub : Ex Hv H) (e0 : Ex Hv Hv') (s' : Ex Hv' H') (f : Ex (frameOf bx Hv H) H') (a : Addr) (o : HO) (hb : a ≠ bx) (h : H a = some o) : H' a = some o := by
  cases q : Hv a with
  | none => exact f a o (by rw [frameOf_at hb q]; exact h)
  | some u =>
    have := sub a u q
    rw [h] at this; cases this
    exact s' a _ (e0 a _ q)
/-- behind a call that was shown the frozen heap alone -/
theorem Rel.called {γ : Type} {g' : G γ} {b' : β} {c' : γ} {TT : List (Addr × Str)} (R : Rel K g H0 σ H s) (r' : Rel0 g' H0' H' c') (hbx : g'.bx = g.bx) (hF : g'.F = frameT TT (frameOf g.bx H0 H)) (hT : TT = [] ∨ (TT = g.T ∧ g'.T = g.T)) (e0 : Ex H0 H0') (it : ∃ o, H' g.bx = some o ∧ g.itp H0' b' o) (rr : ResR K g' H0' H' v r) :
    Rel K g H0' σ H' { s with bx := b' } ∧ ResR K g H0' H' v r ∧ Apart σ s.sl v r := by
  have inT : ∀ a, a ∈ TT.map (·.1) → a ∈ g.T.map (·.1) := fun a h => by
    rcases hT with z | ⟨z, _⟩
    · rw [z] at h; exact absurd h (by simp)
    · rw [z] at h; exact h
  have tabH : ∀ a, a ∈ g.T.map (·.1) → a ≠ g.bx ∧ g.F a = none ∧ H0 a = none ∧ ∃ ps, H a = some (.tbl ps) := fun a h => by
    obtain ⟨q, hq, ep⟩ := List.mem_map.mp h
    obtain ⟨n1, n2, n3, ps, z, _⟩ := R.r0.tb q hq
    rw [ep] at n1 n2 n3 z
    exact ⟨n1, n2, n3, ps, z⟩
  have tab0 : ∀ a, a ∈ TT.map (·.1) → H0' a = none := fun a h => by
    rcases hT with z | ⟨z, z'⟩
    · rw [z] at h; exact absurd h (by simp)
    · rw [z] at h
      obtain ⟨q, hq, ep⟩ := List.mem_map.mp h
      obtain ⟨_, _, n3, _⟩ := r'.tb q (by rw [z']; exact hq)
      rw [← ep]; exact n3
  have nw : ∀ a o, H0' a = some o → H0 a = some o ∨ H a = none := fun a o h => by
    cases q : H0 a with
    | some u =>
      have := e0 a u q
      rw [h] at this; cases this
      exact .inl rfl
    | none =>
      refine .inr ?_
      cases z : H a with
      | none => rfl
      | some u =>
        by_cases hb : a = g.bx
        · have := r'.bxn
          rw [hbx, ← hb, h] at this; cases this
        · by_cases ht : a ∈ TT.map (·.1)
          · rw [tab0 a ht] at h; cases h
          · have := r'.dis a u (by rw [hF, frameT_at ht, frameOf_at hb q]; exact z)
            rw [h] at this; cases this
  have fr : Ex (frameT TT (frameOf g.bx H0 H)) H' := by rw [← hF]; exact r'.frm
  have keep : ∀ a o, a ≠ g.bx → a ∉ TT.map (·.1) → H a = some o → H' a = some o := fun a o hb ht h => by
    cases q : H0 a with
    | none => exact fr a o (by rw [frameT_at ht, frameOf_at hb q]; exact h)
    | some u =>
      have := R.r0.sub a u q
      rw [h] at this; cases this
      exact r'.sub a _ (e0 a _ q)
  have tb : TabsR g.T g.bx g.F H0' H' := by
    rcases hT with z | ⟨z, z'⟩
    · refine R.r0.tb.keep (fun _ _ _ h => h) (fun p _ ⟨ps, hp⟩ n => ?_) fun a o hb _ h => keep a o hb (by rw [z]; simp) h
      cases y : H0' p.1 with
      | none => rfl
      | some o =>
        rcases nw _ o y with x | x
        · rw [n] at x; cases x
        · rw [hp] at x; cases x
    · intro p hp
      obtain ⟨n1, n2, n3, _⟩ := R.r0.tb p hp
      obtain ⟨_, _, m3, ps, m4, m5, m6⟩ := r'.tb p (by rw [z']; exact hp)
      rw [hbx] at m6
      exact ⟨n1, n2, m3, ps, m4, m5, m6⟩
  refine ⟨R.step e0 (fun a o hb ht h => keep a o hb (fun z => ht (inT a z)) h) r'.sub nw it tb, ?_, ?_⟩
  · cases r with
    | v d => exact (show Rep K g.bx H0' v d from by have := rr; rw [← hbx]; exact this)
    | o es =>
      obtain ⟨p, ws, rfl, hp, rs, n0, nF, nb⟩ := rr
      rw [hbx] at rs nb
      refine ⟨p, ws, rfl, hp, rs, n0, ?_, nb⟩
      cases q : g.F p with
      | none => rfl
      | some o =>
        rw [hF, frameT_at (fun z => by rw [(tabH p (inT p z)).2.1] at q; cases q), frameOf_at nb (R.r0.dis p o q), R.r0.frm p o q] at nF
        cases nF
  · cases r with
    | v d => trivial
    | o es =>
      obtain ⟨p, ws, rfl, hp, rs, n0, nF, nb⟩ := rr
      rw [hbx] at nb
      intro i es' q eq h1 h2
      cases eq
      obtain ⟨q, us, e2, hq, _, m0, _⟩ := R.slot i _ _ h1 h2
      cases e2
      rw [hF, frameT_at (fun z => by obtain ⟨_, _, _, ps, y⟩ := tabH _ (inT _ z); rw [hq] at y; cases y), frameOf_at nb m0, hq] at nF
      cases nF
def outP (as : List Arg) : Out Unit RV → M β RV
  | .ok r _ => mIte (okR as r) (mret r) mbad
  | .exc x _ => mIte (noB as) (fun s => .exc x s) mbad
  | .bad => mbad
def outB : Out β RV → M β RV
  | .ok r b => fun s => .ok r { s with bx := b }
  | .exc x b => fun s => .exc x { s with bx := b }
  | .bad => mbad
/-- a call of a def of n parameters: one without a box; one with it -/
def callP (n : Nat) (m : DefM Unit) (ms : M β (List Arg)) : M β RV := mbind ms fun as => mIte (as.length == n) (mbind (rsl as) fun ds => outP as (m ds ())) mbad
def callB (n : Nat) (m : DefM β) (ms : M β (List Arg)) : M β RV := mbind ms fun as => mIte (as.length == n && noB as) (mbind (rsl as) fun ds => fun s => outB (m ds s.bx) s) mbad
def ResP (K : PySem.W.Frag) (g : G β) (H0 : Hp) (σ : L2.St) (Q : VK) : RV → S β → Prop := fun r s' => ∀ v H0' H', Ex H0 H0' → Rel K g H0' σ H' s' → ResR K g H0' H' v r → Apart σ s'.sl v r → Q v H'
theorem spP {m : DefM Unit} (R : Rel K g H0 σ H s) (ra : ArgsR K g H0 σ vs as) (hn : vs.length = n) (eds : resL s.sl as = some ds)
    (h : (outP as (m ds ()) s).on (ResP K g H0 σ Q) (Esc K mg g W H0 σ)) : spOf K mg n m vs H Q (fun c d H => W c d σ H) := by
  obtain ⟨o, hb, ib⟩ := R.r0.it
  cases hnb : noB as with
  | true =>
    have rs := res_plain ra hnb eds
    have it : ∀ (g' : G Unit) (H1 H2 : Hp) (b : Unit), g'.bx = g.bx → (∀ H b o', g'.itp H b o' → o' = o) → Ex H0 H1 → Rel0 g' H1 H2 b → ∃ o, H2 g.bx = some o ∧ g.itp H1 s.bx o := fun g' H1 H2 b hbx hi e1 r1 => by
      obtain ⟨o', hb', hit⟩ := r1.it
      rw [hbx] at hb'
      have := hi _ _ _ hit
      subst this
      exact ⟨o', hb', g.mono e1 ib⟩
    refine ⟨⟨g.bx, fun _ _ o' => o' = o, fun _ h => h, frameOf g.bx H0 H, []⟩, H0, (), ds, trivial, by rw [← rs.len, hn], ⟨R.r0.sub, frameOf_sub, frameOf_dis, R.r0.bxn, frameOf_bx, ⟨o, hb, rfl⟩, TabsR.nil⟩, rs, ?_⟩
    revert h
    cases m ds () with
    | bad => exact fun h => h
    | ok r b =>
      intro h v H1 H2 e1 r1 rr
      have hok : okR as r = true := by unfold okR; rw [hnb]; rfl
      have h : (mIte (okR as r) (mret r) mbad s).on (ResP K g H0 σ Q) (Esc K mg g W H0 σ) := h
      rw [hok] at h
      obtain ⟨R2, r2, ap⟩ := R.called (b' := s.bx) r1 rfl frameT_nil.symm (.inl rfl) e1 (it _ H1 H2 b rfl (fun _ _ _ h => h) e1 r1) rr
      exact h v H1 H2 e1 R2 r2 ap
    | exc x b =>
      intro h cc dd H1 H2 e1 r1 Xr
      have h : (mIte (noB as) (fun s => Out.exc x s) (mbad : M β RV) s).on (ResP K g H0 σ Q) (Esc K mg g W H0 σ) := h
      rw [hnb] at h
      obtain ⟨R2, _, _⟩ := R.called (b' := s.bx) (v := .non) (r := .v .non) r1 rfl frameT_nil.symm (.inl rfl) e1 (it _ H1 H2 b rfl (fun _ _ _ h => h) e1 r1) .non
      exact h cc dd H1 H2 e1 R2 Xr
  | false =>
    have hv := R.view_ex
    have hs := R.view_sub
    have vbx : view σ s.sl H0 H g.bx = none := by
      by_cases ho : Owned σ s.sl g.bx
      · obtain ⟨_, _, _, _, nb⟩ := R.own ho
        exact absurd rfl nb
      · rw [view_not ho]; exact R.r0.bxn
    have rs := R.res_view ra eds
    refine ⟨⟨g.bx, fun _ _ o' => o' = o, fun _ h => h, frameOf g.bx (view σ s.sl H0 H) H, []⟩, view σ s.sl H0 H, (), ds, trivial, by rw [← rs.len, hn], ⟨hs, frameOf_sub, frameOf_dis, vbx, frameOf_bx, ⟨o, hb, rfl⟩, TabsR.nil⟩, rs, ?_⟩
    revert h
    cases m ds () with
    | bad => exact fun h => h
    | ok r b =>
      intro h v H1 H2 e1 r1 rr
      have h : (mIte (okR as r) (mret r) mbad s).on (ResP K g H0 σ Q) (Esc K mg g W H0 σ) := h
      cases hok : okR as r with
      | false => rw [hok] at h; exact h.elim
      | true =>
        rw [hok] at h
        have sc : scalR r = true := by
          unfold okR at hok
          rw [hnb] at hok
          exact hok
        cases r with
        | o es => cases sc
        | v d =>
          have keep : Ex H H2 := fun a u q => by
            by_cases hab : a = g.bx
            · obtain ⟨o', hb', hit⟩ := r1.it
              have hit : o' = o := hit
              subst hit
              have hb' : H2 g.bx = some o' := hb'
              rw [hab, hb] at q; cases q
              rw [hab]; exact hb'
            · exact frameOf_keep hs e1 r1.sub r1.frm a u hab q
          exact h v H0 H2 (Ex.refl _) (R.more keep) (scal_rep sc rr) trivial
    | exc x b =>
      intro h
      have h : (mIte (noB as) (fun s => Out.exc x s) (mbad : M β RV) s).on (ResP K g H0 σ Q) (Esc K mg g W H0 σ) := h
      rw [hnb] at h
      exact h.elim
theorem spB [GOk β] {m : DefM β} (hG : GOk.ok K g.itp g.T) (R : Rel K g H0 σ H s) (ra : ArgsR K g H0 σ vs as) (hn : vs.length = n) (eds : resL s.sl as = some ds) (hnb : noB as = true)
    (h : (outB (m ds s.bx) s).on (ResP K g H0 σ Q) (Esc K mg g W H0 σ)) : spOf K mg n m vs H Q (fun c d H => W c d σ H) := by
  have rs := res_plain ra hnb eds
  refine ⟨g.wF (frameT g.T (frameOf g.bx H0 H)), H0, s.bx, ds, hG, by rw [← rs.len, hn], ⟨R.r0.sub, fun a o h => frameOf_sub a o (frameT_sub a o h), fun a o h => frameOf_dis a o (frameT_sub a o h), R.r0.bxn, ?_, R.r0.it, fun p hp => ?_⟩, rs, ?_⟩
  · show frameT g.T (frameOf g.bx H0 H) g.bx = none
    cases q : frameT g.T (frameOf g.bx H0 H) g.bx with
    | none => rfl
    | some o =>
      have := frameT_sub _ _ q
      rw [frameOf_bx] at this; cases this
  · obtain ⟨n1, n2, n3, ps, z, ok, cs⟩ := R.r0.tb p hp
    exact ⟨n1, frameT_in (List.mem_map.mpr ⟨p, hp, rfl⟩), n3, ps, z, ok, cs⟩
  revert h
  cases m ds s.bx with
  | bad => exact fun h => h
  | ok r b =>
    intro h v H1 H2 e1 r1 rr
    obtain ⟨R2, r2, ap⟩ := R.called (b' := b) (TT := g.T) r1 rfl rfl (.inr ⟨rfl, rfl⟩) e1 r1.it rr
    exact h v H1 H2 e1 R2 r2 ap
  | exc x b =>
    intro h cc dd H1 H2 e1 r1 Xr
    obtain ⟨R2, _, _⟩ := R.called (b' := b) (TT := g.T) (v := .non) (r := .v .non) r1 rfl rfl (.inr ⟨rfl, rfl⟩) e1 r1.it .non
    exact h cc dd H1 H2 e1 R2 Xr
theorem ArgsR.append {vs' : List V} {as' : List Arg} (h : ArgsR K g H0 σ vs as) (h' : ArgsR K g H0 σ vs' as') : ArgsR K g H0 σ (vs ++ vs') (as ++ as') := by
  induction h with
  | nil => exact h'
  | cons r _ ih => exact .cons r ih
theorem ArgsR.len (h : ArgsR K g H0 σ vs as) : vs.length = as.length := by
  induction h with
  | nil => rfl
  | cons r _ ih => simp [ih]
end
section
variable {β : Type} {X : Cx} {g : G β} {W : WX} {a b c e : Expr} {es : List Expr} {m : M β RV} {ms : M β (List Arg)} {pos p : Pos} {x : Str} {st : Stmt} {ps : List Str} {dvs : List V} {kws : List (Str × V)} {f : Addr} {fd : FuncData} {k k' : Nat}
theorem callP_sp {n : Nat} {K : PySem.W.Frag} {mg : Str → Option Value} {md : DefM Unit} {σ : L2.St} {H : Hp} {Q : VK} (h : tE K mg g W (callP n md ms) σ H Q) : tCallSD (spOf K mg n md) [] (fun σ c d H => W c d σ H) (tAB K mg g W ms) σ H Q := by
  obtain ⟨H0, s, R, h⟩ := h
  unfold callP at h
  rw [on_bind] at h
  refine ⟨H0, s, R, Out.on_imp h (fun as s1 h vs H1 H2 e1 R1 ra => ?_) fun _ _ q => q⟩
  show spOf K mg n md (vs ++ []) H2 Q (fun c d H => W c d σ H)
  rw [List.append_nil]
  cases hl : as.length == n with
  | false => rw [hl] at h; exact h.elim
  | true =>
    rw [hl] at h
    have h : (mbind (rsl as) (fun ds => outP as (md ds ())) s1).on _ _ := h
    rw [on_bind, on_rsl] at h
    obtain ⟨ds, eds, h⟩ := h
    exact spP R1 ra (by rw [ra.len]; exact of_decide_eq_true hl) eds (Out.on_imp h (fun r s2 q v H3 H4 e2 R2 rr ap => q v H3 H4 (e1.trans e2) R2 rr ap) fun _ _ q => q.back e1)
theorem callB_sp [GOk β] {n : Nat} {K : PySem.W.Frag} {mg : Str → Option Value} {md : DefM β} {σ : L2.St} {H : Hp} {Q : VK} (hG : GOk.ok K g.itp g.T) (h : tE K mg g W (callB n md ms) σ H Q) : tCallSD (spOf K mg n md) [] (fun σ c d H => W c d σ H) (tAB K mg g W ms) σ H Q := by
  obtain ⟨H0, s, R, h⟩ := h
  unfold callB at h
  rw [on_bind] at h
  refine ⟨H0, s, R, Out.on_imp h (fun as s1 h vs H1 H2 e1 R1 ra => ?_) fun _ _ q => q⟩
  show spOf K mg n md (vs ++ []) H2 Q (fun c d H => W c d σ H)
  rw [List.append_nil]
  cases hl : (as.length == n && noB as) with
  | false => rw [hl] at h; exact h.elim
  | true =>
    rw [hl] at h
    rw [Bool.and_eq_true] at hl
    have h : (mbind (rsl as) (fun ds => fun s => outB (md ds s.bx) s) s1).on _ _ := h
    rw [on_bind, on_rsl] at h
    obtain ⟨ds, eds, h⟩ := h
    exact spB hG R1 ra (by rw [ra.len]; exact of_decide_eq_true hl.1) eds hl.2 (Out.on_imp h (fun r s2 q v H3 H4 e2 R2 rr ap => q v H3 H4 (e1.trans e2) R2 rr ap) fun _ _ q => q.back e1)
/-- f(e, ..) with every parameter written, f a def without a box; with it -/
theorem e_callP {md : DefM Unit} (F : Df X.prog X.w X.K X.mg X.base k x st ps dvs kws f fd md) (hr : Room k' X.A) (hk : k ≤ k') (hb : Binds X.K fd ps []) (tk : L2N.Takes X W) (ha : PABM X g W (e :: es) ms) (hg : Gl X x := by rfl)
    (hdb : (x == ("__debug__" : Str)) = false := by decide) (he : starEach (e :: es) X.env = (false, eval e X.env) :: starEach es X.env := by rfl) (hpl : (backTo pos (starEach es X.env)).any (·.1) = false := by rfl) : PEM X g W (.Call (.Name x p) (e :: es) [] pos) (callP ps.length md ms) :=
  PE.imp (pe_callSD (E := fun σ c d H => W c d σ H) F.ok (hr.mono hk) hg F.gl F.fn.kp hb .nil (fun σ => L2N.passAt tk σ) ha hdb he hpl) fun σ H Q h => callP_sp h
theorem e_callB [GOk β] {md : DefM β} (hG : GOk.ok X.K g.itp g.T) (F : Df X.prog X.w X.K X.mg X.base k x st ps dvs kws f fd md) (hr : Room k' X.A) (hk : k ≤ k') (hb : Binds X.K fd ps []) (tk : L2N.Takes X W) (ha : PABM X g W (e :: es) ms) (hg : Gl X x := by rfl)
    (hdb : (x == ("__debug__" : Str)) = false := by decide) (he : starEach (e :: es) X.env = (false, eval e X.env) :: starEach es X.env := by rfl) (hpl : (backTo pos (starEach es X.env)).any (·.1) = false := by rfl) : PEM X g W (.Call (.Name x p) (e :: es) [] pos) (callB ps.length md ms) :=
  PE.imp (pe_callSD (E := fun σ c d H => W c d σ H) F.ok (hr.mono hk) hg F.gl F.fn.kp hb .nil (fun σ => L2N.passAt tk σ) ha hdb he hpl) fun σ H Q h => callB_sp hG h
end
end DL

set_option Elab.async false
set_option linter.all false
set_option maxRecDepth 100000
namespace DL
open PySem PySem.Spec L2
/-- a def by its name: no defaults -/
def Dx {γ : Type} [GOk γ] (P : Program) (w : World) (K : PySem.W.Frag) (mg : Str → Option Value) (base : Heap) (k : Nat) (x : Str) (st : Stmt) (ps : List Str) (m : DefM γ) : Prop :=
  ∃ f fd, Df P w K mg base k x st ps [] [] f fd m ∧ Binds K fd ps []
def Fd (K : PySem.W.Frag) (mg : Str → Option Value) (x : Str) (st : Stmt) : Prop := ∃ f fd, FunD K x x (defArgs st) (defBody st) (defScope st) [] [] f fd ∧ mg x = some (.ref f)
theorem dx_mk {γ : Type} [GOk γ] {P : Program} {w : World} {K : PySem.W.Frag} {mg : Str → Option Value} {base : Heap} {x : Str} {st : Stmt} {ps : List Str} (N : List Str) {k : Nat} {mb : M γ Fl} (F : Fd K mg x st) (S : FnScope N ps (defScope st))
    (bn : ∀ (kV doc pm : Value) (an : Option Addr) (cdv ct : Value) (us : List Value), us.length = ps.length → bindArgs (PySem.W.fnOf x x (defArgs st) (defBody st) (defScope st) .none kV doc pm an cdv ct) ⟨us, []⟩ = pure (ps.zip us))
    (hb : ∀ (f : Addr) (cdv : Value) (A : Around) (outer : List Env) (s : Shared) (H : Hp) (E : XK) (g : G γ), GOk.ok K g.itp g.T → Room k (A.deeper (PyProof.Rows.envOfC x (defScope st) s.heap.objs.size f cdv)) → PSSM (cxOf (L2N.CX P w) P w K mg base N x (defScope st) f cdv A outer s H E) g (fun c d _ H => E c d H) (defBody st) mb) :
    Dx P w K mg base (k + 1) x st ps (runDef N.length mb) := by
  obtain ⟨f, fd, F, gl⟩ := F
  exact ⟨f, fd, df_mk F gl S (fun cdv A outer s H E g hG hr => hb f cdv A outer s H E g hG hr), F.bindsN bn⟩
section
variable {β : Type} {X : Cx} {g : G β} {W : WX} {a b c e : Expr} {es : List Expr} {kws : List Keyword} {m : M β RV} {ma : M β Arg} {ms mk : M β (List Arg)} {pos p kpos : Pos} {x : Str} {st : Stmt} {ps ks : List Str} {k k' : Nat} {nm : Option Str}
theorem e_cP {n : Nat} {md : DefM Unit} (F : Dx X.prog X.w X.K X.mg X.base k x st ps md) (hr : Room k' X.A) (tk : L2N.Takes X W) (ha : PABM X g W (e :: es) ms) (hk : k ≤ k' := by decide) (hg : Gl X x := by rfl)
    (hdb : (x == ("__debug__" : Str)) = false := by decide) (he : starEach (e :: es) X.env = (false, eval e X.env) :: starEach es X.env := by rfl) (hpl : (backTo pos (starEach es X.env)).any (·.1) = false := by rfl) (hn : ps.length = n := by rfl) : PEM X g W (.Call (.Name x p) (e :: es) [] pos) (callP n md ms) := by
  subst hn
  obtain ⟨f, fd, D, bn⟩ := F
  exact e_callP D hr hk bn tk ha hg hdb he hpl
theorem e_cB [GOk β] {n : Nat} {md : DefM β} (hG : GOk.ok X.K g.itp g.T) (F : Dx X.prog X.w X.K X.mg X.base k x st ps md) (hr : Room k' X.A) (tk : L2N.Takes X W) (ha : PABM X g W (e :: es) ms) (hk : k ≤ k' := by decide) (hg : Gl X x := by rfl)
    (hdb : (x == ("__debug__" : Str)) = false := by decide) (he : starEach (e :: es) X.env = (false, eval e X.env) :: starEach es X.env := by rfl) (hpl : (backTo pos (starEach es X.env)).any (·.1) = false := by rfl) (hn : ps.length = n := by rfl) : PEM X g W (.Call (.Name x p) (e :: es) [] pos) (callB n md ms) := by
  subst hn
  obtain ⟨f, fd, D, bn⟩ := F
  exact e_callB hG D hr hk bn tk ha hg hdb he hpl
/-! ### keywords -/
abbrev PKBM (X : Cx) (g : G β) (W : WX) (kws : List Keyword) (m : M β (List Arg)) : Prop := PK X kws (tAB X.K X.mg g W m)
theorem PK.imp {X : Cx} {es : List Keyword} {t t' : TA} (h : PK X es t) (i : ∀ σ H Q, t' σ H Q → t σ H Q) : PK X es t' := ⟨fun p pins s σ H Q I q => h.run p pins s σ H Q I (i σ H Q q)⟩
theorem k_nil : PKBM X g W [] (mret []) := PK.imp pk_nil fun σ H Q ⟨H0, s, R, q⟩ => q [] H0 H (Ex.refl _) R .nil
theorem k_cons (ha : PBM X g W e ma) (hr : PKBM X g W kws mk) : PKBM X g W (⟨nm, e, kpos⟩ :: kws) (argC ma mk) := PK.imp (pk_cons ha hr) fun σ H Q ⟨H0, s, R, q⟩ => by
  unfold argC at q
  rw [on_bind] at q
  refine ⟨H0, s, R, Out.on_imp q (fun a s1 q v H1 H2 e1 R1 rr => ?_) fun _ _ q => q⟩
  rw [on_bind] at q
  exact ⟨H1, s1, R1, Out.on_imp q (fun as s2 q vs H3 H4 e2 R2 rs => q (v :: vs) H3 H4 (e1.trans e2) R2 (.cons (rr.mono e2) rs)) fun _ _ q => q.back e1⟩
def perm {α : Type} (pi : List Nat) (xs : List α) : List α := pi.filterMap fun i => xs[i]?
theorem perm_cons {α : Type} {i : Nat} {pi : List Nat} {xs : List α} : perm (i :: pi) xs = (match xs[i]? with | some x => x :: perm pi xs | none => perm pi xs) := by
  unfold perm
  rw [List.filterMap_cons]
  cases xs[i]? <;> rfl
theorem perm_vals {vs : List V} {us : List Value} (r : Vals vs us) : ∀ pi : List Nat, Vals (perm pi vs) (perm pi us)
  | [] => .nil
  | i :: pi => by
    rw [perm_cons, perm_cons]
    cases h : vs[i]? with
    | none => rw [r.none_of h]; exact perm_vals r pi
    | some v =>
      obtain ⟨u, hu, ru⟩ := r.get h
      rw [hu]
      exact .cons ru (perm_vals r pi)
theorem ArgsR.get {K : PySem.W.Frag} {H0 : Hp} {σ : L2.St} {vs : List V} {as : List Arg} (r : ArgsR K g H0 σ vs as) : ∀ i : Nat, (vs[i]? = none ∧ as[i]? = none) ∨ ∃ v a, vs[i]? = some v ∧ as[i]? = some a ∧ ArgR K g H0 σ v a := by
  induction r with
  | nil => intro i; exact .inl ⟨by simp, by simp⟩
  | cons h _ ih =>
    intro i
    cases i with
    | zero => exact .inr ⟨_, _, rfl, rfl, h⟩
    | succ i => simpa using ih i
theorem ArgsR.perm {K : PySem.W.Frag} {H0 : Hp} {σ : L2.St} {vs : List V} {as : List Arg} (r : ArgsR K g H0 σ vs as) : ∀ pi : List Nat, ArgsR K g H0 σ (perm pi vs) (perm pi as)
  | [] => .nil
  | i :: pi => by
    rw [perm_cons, perm_cons]
    rcases r.get i with ⟨h1, h2⟩ | ⟨v, a, h1, h2, h3⟩
    · rw [h1, h2]; exact ArgsR.perm r pi
    · rw [h1, h2]; exact .cons h3 (ArgsR.perm r pi)
/-- a call with n positional values and keywords ks; pi puts them in the parameters' order -/
def KwB (K : PySem.W.Frag) (fd : FuncData) (ps : List Str) (n : Nat) (ks : List Str) (pi : List Nat) : Prop := ∀ (s : Shared) (us ws : List Value), K.In s.heap → us.length = n → ws.length = ks.length → BindsTo s fd ⟨us, ks.zip ws⟩ (ps.zip (perm pi (us ++ ws)))
/-- both lists of arguments, in the parameters' order -/
def kwA (n nk : Nat) (pi : List Nat) (ms mk : M β (List Arg)) : M β (List Arg) := mbind ms fun as => mbind mk fun bs => mIte (as.length == n && bs.length == nk) (mret (perm pi (as ++ bs))) mbad
def tKw (n nk : Nat) (pi : List Nat) (sp : Sp) (E : L2.St → XK) (t tk : TA) : TE := fun σ H Q => t σ H fun vs H1 => tk σ H1 fun zs H2 => vs.length = n ∧ zs.length = nk ∧ sp (perm pi (vs ++ zs)) H2 Q (E σ)
theorem kw_use {n nk : Nat} {pi : List Nat} {K : PySem.W.Frag} {mg : Str → Option Value} {σ : L2.St} {H : Hp} {P : List V → Hp → Prop} (h : tAB K mg g W (kwA n nk pi ms mk) σ H P) : tAB K mg g W ms σ H fun vs H1 => tAB K mg g W mk σ H1 fun zs H2 => vs.length = n ∧ zs.length = nk ∧ P (perm pi (vs ++ zs)) H2 := by
  obtain ⟨H0, s, R, h⟩ := h
  unfold kwA at h
  rw [on_bind] at h
  refine ⟨H0, s, R, Out.on_imp h (fun as s1 h vs H1 H2 e1 R1 ra => ?_) fun _ _ q => q⟩
  rw [on_bind] at h
  refine ⟨H1, s1, R1, Out.on_imp h (fun bs s2 h zs H3 H4 e2 R2 rb => ?_) fun _ _ q => q.back e1⟩
  cases hl : (as.length == n && bs.length == nk) with
  | false => rw [hl] at h; exact h.elim
  | true =>
    rw [hl] at h
    rw [Bool.and_eq_true] at hl
    exact ⟨by rw [ra.len]; exact of_decide_eq_true hl.1, by rw [rb.len]; exact of_decide_eq_true hl.2, h _ H3 H4 (e1.trans e2) R2 (((ra.mono e2).append rb).perm pi)⟩
section
open PyProof.Rows
theorem run_kw {CX : CXT} {f : Addr} {fd : FuncData} {n : Nat} {pi : List Nat} {sp : Sp} {E : L2.St → XK} {pins : List (Addr × Obj)} {σ : L2.St} {H : Hp} {s : Shared} {Q : VK} {us ws : List Value} {vs zs : List V} (F : FnOk X.prog X.w X.K X.mg X.base CX k f fd ps sp) (hr : Room k X.A) (hb : KwB X.K fd ps n ks pi) (hx : PassesAt CX X σ (E σ))
    (I : Inv X pins σ H s) (r : Vals vs us) (rz : Vals zs ws) (l1 : vs.length = n) (l2 : zs.length = ks.length) (h : sp (perm pi (vs ++ zs)) H Q (E σ)) : wpAny (model X.prog X.w) X.A (call (.ref f) us (ks.zip ws)) (EP X pins σ Q) X.xe s := by
  have r2 := perm_vals (r.append rz) pi
  refine wpAny_call (codeAny_mono (F.run X.A X.stack s H ⟨us, ks.zip ws⟩ (perm pi (us ++ ws)) (perm pi (vs ++ zs)) Q (E σ) hr I.env0 (hb s us ws I.kIn (r.length.symm.trans l1) (rz.length.symm.trans l2)) r2 h) fun r s' hq => ?_)
  cases r with
  | error e => exact hx pins H s e s' I hq
  | ok fl =>
    cases fl with
    | ret u => exact I.after hq
    | next => exact False.elim hq
    | brk => exact False.elim hq
    | cont => exact False.elim hq
theorem pe_kw {CX : CXT} {f : Addr} {fd : FuncData} {n : Nat} {pi : List Nat} {sp : Sp} {E : L2.St → XK} {t tk : TA} (F : FnOk X.prog X.w X.K X.mg X.base CX k f fd ps sp) (hr : Room k X.A) (hg : Gl X x) (hm : X.mg x = some (.ref f)) (hk : PySem.W.keepIn X.K (.ref f) = true) (hb : KwB X.K fd ps n ks pi) (hx : ∀ σ, PassesAt CX X σ (E σ))
    (ha : PA X (e :: es) t) (hkw : PK X kws tk) (hall : (backToKw pos (keywordEach kws X.env)).all (·.1.isSome) = true) (hks : (backToKw pos (keywordEach kws X.env)).filterMap (·.1) = ks)
    (hdb : (x == ("__debug__" : Str)) = false) (he : starEach (e :: es) X.env = (false, eval e X.env) :: starEach es X.env)
    (hpl : ((backTo pos (starEach (e :: es) X.env)).any (·.1) || (backToKw pos (keywordEach kws X.env)).any (·.1.isNone)) = false) :
    PE X (.Call (.Name x p) (e :: es) kws pos) (tKw n ks.length pi sp E t tk) := by
  refine ⟨fun pins s σ H Q I h => ?_⟩
  refine wpAny_Call_Name_kw (ld_glob I hg hm ?_ hdb)
  refine PySem.W.callWith_KW (h₀ := X.base) I.ok.mod.kin hk hall (thn (ha.run pos pins s σ H _ I h) fun us s1 ⟨vs, H1, I1, r, q⟩ => ?_) hpl he
  refine thn (hkw.run pos pins s1 σ H1 _ I1 q) fun ws s2 ⟨zs, H2, I2, rz, l1, l2, q2⟩ => ⟨I2.kIn, ?_⟩
  rw [hks]
  exact run_kw F hr hb (hx σ) I2 r rz l1 l2 q2
theorem pe_kw0 {CX : CXT} {f : Addr} {fd : FuncData} {pi : List Nat} {sp : Sp} {E : L2.St → XK} {tk : TA} (F : FnOk X.prog X.w X.K X.mg X.base CX k f fd ps sp) (hr : Room k X.A) (hg : Gl X x) (hm : X.mg x = some (.ref f)) (hk : PySem.W.keepIn X.K (.ref f) = true) (hb : KwB X.K fd ps 0 ks pi) (hx : ∀ σ, PassesAt CX X σ (E σ))
    (hkw : PK X kws tk) (hall : (backToKw pos (keywordEach kws X.env)).all (·.1.isSome) = true) (hks : (backToKw pos (keywordEach kws X.env)).filterMap (·.1) = ks)
    (hdb : (x == ("__debug__" : Str)) = false) (hpl : ((backTo pos (starEach [] X.env)).any (·.1) || (backToKw pos (keywordEach kws X.env)).any (·.1.isNone)) = false) :
    PE X (.Call (.Name x p) [] kws pos) (tKw 0 ks.length pi sp E tNil tk) := by
  refine ⟨fun pins s σ H Q I h => ?_⟩
  refine wpAny_Call_Name_kw (ld_glob I hg hm ?_ hdb)
  refine PySem.W.callWith_KW0 (h₀ := X.base) I.ok.mod.kin hk hall ?_ hpl
  refine thn (hkw.run pos pins s σ H _ I h) fun ws s2 ⟨zs, H2, I2, rz, l1, l2, q2⟩ => ⟨I2.kIn, ?_⟩
  rw [hks]
  exact run_kw F hr hb (hx σ) I2 .nil rz l1 l2 q2
end
theorem callP_sp' {n : Nat} {K : PySem.W.Frag} {mg : Str → Option Value} {md : DefM Unit} {σ : L2.St} {H : Hp} {Q : VK} (h : tE K mg g W (callP n md ms) σ H Q) : tAB K mg g W ms σ H fun vs H1 => spOf K mg n md vs H1 Q (fun c d H => W c d σ H) := by
  have := callP_sp h
  unfold tCallSD at this
  simpa using this
theorem callB_sp' [GOk β] {n : Nat} {K : PySem.W.Frag} {mg : Str → Option Value} {md : DefM β} {σ : L2.St} {H : Hp} {Q : VK} (hG : GOk.ok K g.itp g.T) (h : tE K mg g W (callB n md ms) σ H Q) : tAB K mg g W ms σ H fun vs H1 => spOf K mg n md vs H1 Q (fun c d H => W c d σ H) := by
  have := callB_sp hG h
  unfold tCallSD at this
  simpa using this
/-- how keywords bind, read off the def's text -/
abbrev KwT (x : Str) (st : Stmt) (ps : List Str) (n : Nat) (ks : List Str) (pi : List Nat) : Prop := ∀ (kV doc pm : Value) (an : Option Addr) (cdv ct : Value) (us ws : List Value), us.length = n → ws.length = ks.length →
  bindArgs (PySem.W.fnOf x x (defArgs st) (defBody st) (defScope st) .none kV doc pm an cdv ct) ⟨us, ks.zip ws⟩ = pure (ps.zip (perm pi (us ++ ws)))
theorem kwB {K : PySem.W.Frag} {f : Addr} {fd : FuncData} {n : Nat} {pi : List Nat} (F : FunD K x x (defArgs st) (defBody st) (defScope st) [] [] f fd) (h : KwT x st ps n ks pi) : KwB K fd ps n ks pi := by
  obtain ⟨oc, od, dV, kV, doc, pm, an, cdv, ct, osl, rfl, lk, hcd, hD, hK⟩ := F.ex
  rcases hD with ⟨_, rfl⟩ | ⟨e, _⟩
  · exact fun s us ws _ l1 l2 => .of_eq (h kV doc pm an cdv ct us ws l1 l2)
  · exact absurd rfl e
theorem e_kP {n N nk : Nat} (pi : List Nat) {md : DefM Unit} (F : Dx X.prog X.w X.K X.mg X.base k x st ps md) (hr : Room k' X.A) (tk : L2N.Takes X W) (h : KwT x st ps n ks pi) (ha : PABM X g W (e :: es) ms) (hkw : PKBM X g W kws mk) (hk : k ≤ k' := by decide) (hg : Gl X x := by rfl)
    (hall : (backToKw pos (keywordEach kws X.env)).all (·.1.isSome) = true := by rfl) (hks : (backToKw pos (keywordEach kws X.env)).filterMap (·.1) = ks := by rfl)
    (hdb : (x == ("__debug__" : Str)) = false := by decide) (he : starEach (e :: es) X.env = (false, eval e X.env) :: starEach es X.env := by rfl)
    (hpl : ((backTo pos (starEach (e :: es) X.env)).any (·.1) || (backToKw pos (keywordEach kws X.env)).any (·.1.isNone)) = false := by rfl) (hN : ps.length = N := by rfl) (hnk : ks.length = nk := by rfl) : PEM X g W (.Call (.Name x p) (e :: es) kws pos) (callP N md (kwA n nk pi ms mk)) := by
  subst hN hnk
  obtain ⟨f, fd, D, bn⟩ := F
  exact PE.imp (pe_kw (E := fun σ c d H => W c d σ H) D.ok (hr.mono hk) hg D.gl D.fn.kp (kwB D.fn h) (fun σ => L2N.passAt tk σ) ha hkw hall hks hdb he hpl) fun σ H Q q => kw_use (callP_sp' q)
theorem e_kP0 {N nk : Nat} (pi : List Nat) {md : DefM Unit} (F : Dx X.prog X.w X.K X.mg X.base k x st ps md) (hr : Room k' X.A) (tk : L2N.Takes X W) (h : KwT x st ps 0 ks pi) (hkw : PKBM X g W kws mk) (hk : k ≤ k' := by decide) (hg : Gl X x := by rfl)
    (hall : (backToKw pos (keywordEach kws X.env)).all (·.1.isSome) = true := by rfl) (hks : (backToKw pos (keywordEach kws X.env)).filterMap (·.1) = ks := by rfl)
    (hdb : (x == ("__debug__" : Str)) = false := by decide) (hpl : ((backTo pos (starEach [] X.env)).any (·.1) || (backToKw pos (keywordEach kws X.env)).any (·.1.isNone)) = false := by rfl) (hN : ps.length = N := by rfl) (hnk : ks.length = nk := by rfl) : PEM X g W (.Call (.Name x p) [] kws pos) (callP N md (kwA 0 nk pi (mret []) mk)) := by
  subst hN hnk
  obtain ⟨f, fd, D, bn⟩ := F
  refine PE.imp (pe_kw0 (E := fun σ c d H => W c d σ H) D.ok (hr.mono hk) hg D.gl D.fn.kp (kwB D.fn h) (fun σ => L2N.passAt tk σ) hkw hall hks hdb hpl) fun σ H Q q => ?_
  obtain ⟨H0, s, R, q⟩ := kw_use (callP_sp' q)
  exact q [] H0 H (Ex.refl _) R .nil
end
/-! ### y = [..] -/
section
variable {β : Type} {X : Cx} {g : G β} {W : WX} {tgt : List Nat} {elt tg iter : Expr} {ifs : List Expr} {scope : Scope} {pos py spos : Pos} {mi : M β (List D)} {t : D → M β Unit} {c : M β Bool} {e : M β RV} {y : Str}
theorem s_setLc (i : Nat) (own : List (Str × Nat)) (hN : X.N.Nodup) (hi : PIM X g W tg iter mi) (hg : BlkG X g scope tgt tg t) (ht : BlkT X g scope ifs c) (he : BlkE X g scope elt e) (hc : X.calm = true := by rfl) (hy : X.N[i]? = some y := by rfl) (hyl : X.env.scope.names.lookup y = some .local := by rfl)
    (hsw : swapsWith (.ListComp elt [⟨tg, iter, ifs, 0⟩] scope pos) (some (.Name y py)) spos.line X.env = pure true := by exact sw_true rfl rfl rfl (by decide +kernel)) (ok : BlkOk X.N X.env.scope scope own := by exact blkOk_by (by decide +kernel)) (hs : ∀ i ∈ tgt, i ∈ own.map (·.2) := by decide) (hf : ∀ x, foldedSetIterable iter X.env x = pure x := by intro _; rfl) :
    PSM X g W (.Assign [.Name y py] (.ListComp elt [⟨tg, iter, ifs, 0⟩] scope pos) spos) (asgM i (lcM (own.map (·.2)) mi t c e)) :=
  PS.imp (ps_setLc hc hN hy hyl hsw hi ok (fun s H C cl fp => pg_F fun F => hg F s H C cl fp) (fun s H C cl fp => pts_F fun F => ht F s H C cl fp) (fun s H C cl fp => pe_F fun F => (he F s H C cl fp).d) hf) fun D σ H ⟨H0, s, R, q⟩ => by
    unfold asgM at q
    rw [on_bind] at q
    refine lc_tE hs ⟨H0, s, R, Out.on_imp q (fun r s1 q v H1 H2 e R1 rr ap => ?_) fun _ _ q => q.e⟩
    rw [on_bind] at q
    obtain ⟨hl, q⟩ := on_stV q
    exact q _ H1 H2 e (R1.set (by rw [← R1.len]; exact hl) rr ap)
end
end DL

set_option Elab.async false
set_option linter.all false
set_option maxRecDepth 100000
set_option maxHeartbeats 1000000
namespace DL
open PySem PySem.Spec L2 PyProof.Rows GenW
section
variable {M : Model} {A : Around} {R : GenEnd} {Y : Protocol} {n : Nat} {s₀ s : Shared} {c : Code} {fs : List Frame} {env : Env} {K : Flow → Sem PySem.Fin} {H : Value → Sem PySem.Fin} {gd : Bool → Bool} {lv : List Value → List Value}
/-- the head of a for among a generator's statements -/
theorem sg_for {tg iter : Expr} {body orelse : List Stmt} {pos : Pos}
    (h : wpAny M (A.over c fs) (eval iter env) (fun x s1 => wpAny M (A.over c fs) (pyIter x) (fun it s2 => ∀ p, Seg M A R Y n s₀ (.forLoop tg it body orelse env) (M.den (.forLoop tg it body orelse env))
      (.ret (fun r => ((match r with | .ok f => (.pure f : Sem Flow) | .error e => .raise e).onRaise (cameBack env)).wrap K H gd lv) none (gd false) (lv []) c p [] :: fs) s2)
      (fun x s' => Seg M A R Y n s₀ c (H x) fs s') s1) (fun x s' => Seg M A R Y n s₀ c (H x) fs s') s)
    (hs : ∀ x, foldedSetIterable iter env x = pure x) : Seg M A R Y n s₀ c ((exec (.For tg iter body orelse pos) env).wrap K H gd lv) fs s := by
  rw [exec_For]
  refine seg_bind_wrap (wpAny_standAt ?_)
  refine seg_bind_wrap (wpAny_mono h (fun x s1 h1 => ?_) fun _ _ h => h)
  rw [hs x]
  refine seg_bind_wrap (wpAny_pure ?_)
  refine seg_bind_wrap (wpAny_standAt ?_)
  refine seg_bind_wrap (wpAny_holding (wpAny_mono h1 (fun it s2 h2 => ?_) fun _ _ h => h))
  exact seg_call h2
theorem sg_if {cnd : Expr} {body orelse : List Stmt} {pos : Pos}
    (h : wpAny M (A.over c fs) (isTrue cnd env (eval cnd env)) (fun b s1 => match b with
      | true => Seg M A R Y n s₀ c ((execs body env).wrap K H gd lv) fs s1
      | false => Seg M A R Y n s₀ c ((execs orelse env).wrap K H gd lv) fs s1) (fun x s' => Seg M A R Y n s₀ c (H x) fs s') s) : Seg M A R Y n s₀ c ((exec (.If cnd body orelse pos) env).wrap K H gd lv) fs s := by
  rw [exec_If]
  refine seg_bind_wrap (wpAny_standAt ?_)
  refine seg_bind_wrap (wpAny_mono h (fun b s1 h1 => ?_) fun _ _ h => h)
  cases b with
  | true => exact h1
  | false => exact h1
end
section
variable {prog : Program} {w : World} {A : Around} {R : GenEnd} {Y : Protocol} {n : Nat} {s₀ : Shared} {fs : List Frame} {s : Shared} {env : Env}
/-- how an exception leaves a loop's code -/
abbrev lvg (env : Env) (x : Value) : Sem PySem.Fin := (do noteFrame x env; theTreesLotGoes x : Sem Unit).wrap (fun _ => .raise x) .raise id id
/-- one turn -/
theorem sg_turn {tg : Expr} {it : Value} {body : List Stmt}
    (h : wpAny (model prog w) (A.over (.forLoop tg it body [] env) fs) (pyNext it) (fun r s1 => match r with
      | none => Seg (model prog w) A R Y n s₀ (.forLoop tg it body [] env) (.pure (.again (.block [] env))) fs s1
      | some v => wpAny (model prog w) (A.over (.forLoop tg it body [] env) fs) (letOwnedTupleGo tg it v) (fun _ s2 => wpAny (model prog w) (A.over (.forLoop tg it body [] env) fs) (assign tg env v) (fun _ s3 =>
          Seg (model prog w) A R Y n s₀ (.forLoop tg it body [] env) ((execs body env).wrap (fun f => match f with
            | .next | .cont => .pure (.again (.forLoop tg it body [] env))
            | .brk => .pure (.done .next)
            | .ret v => .pure (.done (.ret v))) (lvg env) id id) fs s3)
          (fun x s' => Seg (model prog w) A R Y n s₀ (.forLoop tg it body [] env) (lvg env x) fs s') s2) (fun x s' => Seg (model prog w) A R Y n s₀ (.forLoop tg it body [] env) (lvg env x) fs s') s1)
      (fun x s' => Seg (model prog w) A R Y n s₀ (.forLoop tg it body [] env) (lvg env x) fs s') s) :
    Seg (model prog w) A R Y n s₀ (.forLoop tg it body [] env) ((model prog w).den (.forLoop tg it body [] env)) fs s := by
  show Seg _ A R Y n s₀ _ ((forTurn tg it body [] env).onRaise (fun x => do noteFrame x env; theTreesLotGoes x)) fs s
  unfold forTurn
  have eJ : ∀ x, ((do noteFrame x env; theTreesLotGoes x : Sem Unit).bind fun _ => (Sem.raise x : Sem PySem.Fin)) = lvg env x := fun x => Sem.bind_eq_wrap _ _
  rw [Sem.onRaise_eq_wrap]
  simp only [eJ]
  refine seg_bind_wrap (wpAny_standAt ?_)
  refine seg_bind_wrap (wpAny_onRaise (wpAny_mono h (fun r s1 h1 => ?_) fun x s1 h1 => wpAny_standAt h1))
  cases r with
  | none => exact h1
  | some v =>
    refine seg_bind_wrap (wpAny_mono h1 (fun _ s2 h2 => ?_) fun _ _ h => h)
    refine seg_bind_wrap (wpAny_mono h2 (fun _ s3 h3 => ?_) fun _ _ h => h)
    rw [Sem.bind_eq_wrap', Sem.wrap_wrap]
    rw [Sem.wrap_congr (execs body env) _ _ (K' := fun f => match f with
            | .next | .cont => .pure (.again (.forLoop tg it body [] env))
            | .brk => .pure (.done .next)
            | .ret v => .pure (.done (.ret v))) (H' := lvg env) (fun f => by cases f <;> rfl) (fun e => by rfl)]
    exact h3
/-- nothing is left to do -/
theorem sg_over {c : Code} (h : Seg (model prog w) A R Y n s₀ (.block [] env) (leafOf (.ok .next)) fs s) : Seg (model prog w) A R Y n s₀ c (.pure (.again (.block [] env))) fs s := seg_again rfl h
end
section
variable {X : Cx} {tg iter c : Expr} {body orelse : List Stmt} {pos : Pos} {wi : TI} {g : TG} {tb ta : TGn} {tc : TT}
def tGIf (tc : TT) (ta tb : TGn) : TGn := fun D ys σ H => tc σ H fun b H1 => if b = true then ta D ys σ H1 else tb D ys σ H1
theorem gs_if (hc : PT X c tc) (ha : GSs X body ta) (hb : GSs X orelse tb) : GS X (.If c body orelse pos) (tGIf tc ta tb) := by
  refine ⟨fun A S ip R n ys s₀ cc fs K J gd lv s σ H D g hn k hI ht => ?_⟩
  obtain ⟨acc, c', r, I⟩ := hI
  refine sg_if ?_
  rw [g.over]
  refine wpAny_mono (hc.run _ s σ H _ I ht) (fun b s1 ⟨H1, I1, q⟩ => ?_) fun x s' hx => k.exc n s₀ x s' hx
  cases b with
  | true => exact ha.run A S ip R n ys s₀ cc fs K J gd lv s1 σ H1 D g hn k ⟨acc, c', r, I1⟩ (by simpa using q)
  | false => exact hb.run A S ip R n ys s₀ cc fs K J gd lv s1 σ H1 D g hn k ⟨acc, c', r, I1⟩ (by simpa using q)
def tGFor (wi : TI) (g : TG) (tb : TGn) : TGn := fun D ys σ H => wi σ H fun J H1 => ∃ W : Nat → Nat → List V → L2.St → Hp → Prop, (∃ m, W 0 m ys σ H1) ∧ ∀ i m ys σ H, W i m ys σ H →
  (J.stop i H ∧ D.nx ys σ H) ∨ (J.go i H ∧ ∃ N : List V → L2.St → Hp → Prop, (∀ ys' σ' H', N ys' σ' H' → ∃ m', m' < m ∧ W (i + 1) m' ys' σ' H') ∧ ∀ x H', J.yld i H x H' → g x σ H' fun σ2 H2 => tb { D with nx := N, ct := N, bk := D.nx } ys σ2 H2)
theorem gs_for (hp : PassesOwn (model X.prog X.w) X.A X.env X.xe) (hc : X.calm = true) (hi : PI X tg iter wi) (hg : PG X tg g) (hb : GSs X body tb) (hs : ∀ x, foldedSetIterable iter X.env x = pure x := by intro _; rfl) : GS X (.For tg iter body [] pos) (tGFor wi g tb) := by
  refine ⟨fun A S ip R n ys s₀ c fs K J gd lv s σ H D gc hn k hI ht => ?_⟩
  obtain ⟨acc, cc, r, I⟩ := hI
  refine sg_for ?_ hs
  rw [gc.over]
  refine wpAny_mono (hi.run _ s σ H _ I ht) (fun v s1 h1 => wpAny_mono h1 (fun itv s2 h2 => ?_) fun x s' hx => k.exc n s₀ x s' hx) fun x s' hx => k.exc n s₀ x s' hx
  obtain ⟨it, fp, tn, Jt, H2, e, I2, T, st2, f2, W, ⟨m0, w0⟩, turn⟩ := h2
  subst e
  have stat : ∀ {acc' : Array Value} {c' : Nat} {H' : Hp}, (∀ b ∈ fp, H' b = none) → ∀ b ∈ fp, FpOk X ((S, lstObj acc' c') :: ip) H' b := fun hn b hb => by
    obtain ⟨_, z1, z2, z3, z4, z5⟩ := f2 b hb
    refine ⟨hn b hb, z1, z2, z3, z4, fun p hp => ?_⟩
    rcases List.mem_append.mp hp with hp | hp
    · exact z5 p (List.mem_append_left _ hp)
    · rcases List.mem_cons.mp hp with hp | hp
      · rw [hp]
        exact z5 (S, lstObj acc cc) (List.mem_append_right _ List.mem_cons_self)
      · exact z5 p (List.mem_append_right _ (List.mem_cons_of_mem _ hp))
  have notS : ∀ b ∈ fp, b ≠ S := fun b hb e => (f2 b hb).2.2.2.2.2 (S, lstObj acc cc) (List.mem_append_right _ List.mem_cons_self) e.symm
  intro p
  have gl := fun (kk : Result → Sem PySem.Fin) => gc_loop (k := kk) (c' := .forLoop tg (.ref it) body [] X.env) (l := lv []) (kp := []) (p := p) gc rfl rfl
  have loop : ∀ (m n i : Nat) (ys : List V) (s₀ s : Shared) (σ : L2.St) (H : Hp), n + ys.length = sizeLine → W i m ys σ H → GI X S ip ys σ H s → tn i s.heap → (∀ b ∈ fp, H b = none) →
      Seg (model X.prog X.w) A R (GY X S) n s₀ (.forLoop tg (.ref it) body [] X.env) ((model X.prog X.w).den (.forLoop tg (.ref it) body [] X.env))
        (.ret (fun r => ((match r with | .ok f => (.pure f : Sem Flow) | .error e => .raise e).onRaise (cameBack X.env)).wrap K J gd lv) none (gd false) (lv []) c p [] :: fs) s := by
    intro m
    induction m using Nat.strongRecOn with
    | ind m ih =>
      intro n i ys s₀ s σ H hn w hI st3 fr3
      have ee : ∀ (n : Nat) (s₀ : Shared) (x : Value) (s' : Shared), X.xe x s' → Seg (model X.prog X.w) A R (GY X S) n s₀ (.forLoop tg (.ref it) body [] X.env) (lvg X.env x)
          (.ret (fun r => ((match r with | .ok f => (.pure f : Sem Flow) | .error e => .raise e).onRaise (cameBack X.env)).wrap K J gd lv) none (gd false) (lv []) c p [] :: fs) s' := fun n s₀ x s' hx => by
        refine seg_wrap ?_
        rw [(gl _).over]
        refine wpAny_bind (wpAny_mono (hp x s' hx) (fun _ s'' hcb => wpAny_theTreesLotGoes ?_) fun y s'' hcb => ?_)
        · exact seg_leaf (.error x) (seg_cameBack gc k hcb)
        · exact seg_leaf (.error y) (seg_cameBack gc k hcb)
      obtain ⟨acc, cc, r, I3⟩ := hI
      refine sg_turn ?_
      rw [(gl _).over]
      rcases turn i m ys σ H w with ⟨stop, qn⟩ | ⟨go, N, hN, step⟩
      · refine wpAny_mono (T.done X rfl rfl rfl hc i _ s σ H X.xe I3 (stat fr3) st3 stop) (fun r' s4 ⟨hr, I4⟩ => ?_) fun x s' hx => ee n s₀ x s' hx
        subst hr
        exact sg_over (seg_leaf (.ok .next) (k.ok n ys s₀ s4 .next hn ⟨σ, H, ⟨acc, cc, r, I4⟩, qn⟩))
      · refine wpAny_mono (T.item X rfl rfl rfl hc i _ s σ H X.xe I3 (stat fr3) st3 go) (fun r' s4 ⟨u, hr, h4⟩ => ?_) fun x s' hx => ee n s₀ x s' hx
        subst hr
        refine wpAny_mono h4 (fun _ s5 ⟨x, H5, I5, r5, y5, st5, fr5⟩ => ?_) fun x s' hx => ee n s₀ x s' hx
        have I5' : Inv X ((S, lstObj acc cc) :: (ip ++ pinsAt fp s5.heap)) σ H5 s5 := I5.pinned (stat fr5) (T.obj _ _ st5)
        refine wpAny_mono (hg.run _ s5 σ H5 x u _ I5' r5 (step x H5 y5)) (fun _ s6 ⟨σ6, H6, I6, q6⟩ => ?_) fun x s' hx => ee n s₀ x s' hx
        have gb : GC X S (ip ++ pinsAt fp s5.heap) A (.forLoop tg (.ref it) body [] X.env) (.ret (fun r => ((match r with | .ok f => (.pure f : Sem Flow) | .error e => .raise e).onRaise (cameBack X.env)).wrap K J gd lv) none (gd false) (lv []) c p [] :: fs) id := by
          obtain ⟨z1, z2, z3, z4, z5, z6, z7⟩ := gl (fun r => ((match r with | .ok f => (.pure f : Sem Flow) | .error e => .raise e).onRaise (cameBack X.env)).wrap K J gd lv)
          refine ⟨z1, fun q hq => ?_, z3, z4, z5, z6, z7⟩
          rcases List.mem_append.mp hq with hq | hq
          · exact z2 q hq
          · exact notS _ (of_pinsAt hq).1
        have back : ∀ {ys' : List V} {σ7 : L2.St} {H7 : Hp} {s7 : Shared}, GI X S (ip ++ pinsAt fp s5.heap) ys' σ7 H7 s7 → GI X S ip ys' σ7 H7 s7 ∧ tn (i + 1) s7.heap ∧ ∀ b ∈ fp, H7 b = none := fun {ys' σ7 H7 s7} z => by
          obtain ⟨a7, c7, r7, I7⟩ := z
          have pin : ∀ b ∈ fp, ∀ o, s5.heap.get? b = some o → s7.heap.get? b = some o ∧ H7 b = none := fun b hb o e => by
            have := I7.pin (b, o) (List.mem_append_right _ (List.mem_cons_of_mem _ (List.mem_append_right _ (mem_pinsAt hb e))))
            exact ⟨this.1, this.2.1⟩
          refine ⟨⟨a7, c7, r7, I7.pins_of fun q hq => I7.pin q (List.mem_append_right _ ?_)⟩, T.keep _ _ _ st5 fun b hb o e => (pin b hb o e).1, fun b hb => ?_⟩
          · rcases List.mem_cons.mp hq with hq | hq
            · rw [hq]; exact List.mem_cons_self
            · exact List.mem_cons_of_mem _ (List.mem_append_left _ hq)
          · obtain ⟨o, e, _⟩ := T.obj _ _ st5 b hb
            exact (pin b hb o e).2
        refine hb.run A S _ R n ys s₀ _ _ _ _ id id s6 σ6 H6 { D with nx := N, ct := N, bk := D.nx } gb hn ⟨fun n' ys' s₀' s7 f hn' hs7 => ?_, fun n' s₀' x s7 hx => ee n' s₀' x s7 hx⟩ ⟨acc, cc, r, I6⟩ q6
        cases f with
        | next =>
          obtain ⟨σ7, H7, I7, n7⟩ := hs7
          obtain ⟨m', hm, w7⟩ := hN ys' σ7 H7 n7
          obtain ⟨J7, st7, fr7⟩ := back I7
          exact seg_again rfl (ih m' hm n' (i + 1) ys' s₀' s7 σ7 H7 hn' w7 J7 st7 fr7)
        | cont =>
          obtain ⟨σ7, H7, I7, n7⟩ := hs7
          obtain ⟨m', hm, w7⟩ := hN ys' σ7 H7 n7
          obtain ⟨J7, st7, fr7⟩ := back I7
          exact seg_again rfl (ih m' hm n' (i + 1) ys' s₀' s7 σ7 H7 hn' w7 J7 st7 fr7)
        | brk =>
          obtain ⟨σ7, H7, I7, q7⟩ := hs7
          exact seg_leaf (.ok .next) (k.ok n' ys' s₀' s7 .next hn' ⟨σ7, H7, (back I7).1, q7⟩)
        | ret v =>
          obtain ⟨x7, σ7, H7, I7, r7, q7⟩ := hs7
          exact seg_leaf (.ok (.ret v)) (k.ok n' ys' s₀' s7 (.ret v) hn' ⟨x7, σ7, H7, (back I7).1, r7, q7⟩)
  exact loop m0 n 0 ys s₀ s2 σ H2 hn w0 ⟨acc, cc, r, I2⟩ st2 fun b hb => (f2 b hb).1
end
end DL

set_option Elab.async false
set_option linter.all false
set_option maxRecDepth 100000
namespace DL
open PySem PySem.Spec L2
/-! ### a generator's body: the mirror is given what is out so far -/
abbrev GM (β : Type) := List D → M β (Fl × List D)
section
variable {β : Type}
def gTo (m : M β Fl) : GM β := fun ys => mbind m fun f => mret (f, ys)
def gYld (m : M β RV) : GM β := fun ys => mIte (decide (ys.length < sizeLine)) (mbind m fun r => mret (.nx, ys ++ [r.d])) mbad
def gThn (b : GM β) : Fl × List D → M β (Fl × List D)
  | (.nx, ys) => b ys
  | q => mret q
def gSeq (a b : GM β) : GM β := fun ys => mbind (a ys) (gThn b)
def gIf (c : M β Bool) (a b : GM β) : GM β := fun ys => mbind c fun k => mIte k (a ys) (b ys)
def gLoop (k : GM β) : Fl × List D → M β (Fl × List D)
  | (.nx, ys) => k ys
  | (.ct, ys) => k ys
  | (.bk, ys) => mret (.nx, ys)
  | (.rt r, ys) => mret (.rt r, ys)
def gWh : Nat → M β Bool → GM β → GM β
  | 0, _, _ => fun _ => mbad
  | n + 1, c, b => fun ys => mbind c fun k => mIte k (mbind (b ys) (gLoop (gWh n c b))) (mret (.nx, ys))
def gFr (t : D → M β Unit) (b : GM β) : List D → GM β
  | [] => fun ys => mret (.nx, ys)
  | d :: ds => fun ys => mbind (noX (t d)) fun _ => mbind (b ys) (gLoop (gFr t b ds))
def gFor (mi : M β (List D)) (t : D → M β Unit) (b : GM β) : GM β := fun ys => mbind mi fun ds => gFr t b ds ys
end
section
variable {β : Type} {K : PySem.W.Frag} {mg : Str → Option Value} {g : G β} {W : WX} {H0 H H0' H' : Hp} {σ : L2.St} {s s' : S β}
def GFl (K : PySem.W.Frag) (g : G β) (D' : GEnds) (H0 : Hp) : Fl × List D → S β → Prop
  | (.nx, ds), s' => ∀ ys σ' H0' H', Ex H0 H0' → Rel K g H0' σ' H' s' → Reps K g.bx H0' ys ds → D'.nx ys σ' H'
  | (.bk, ds), s' => ∀ ys σ' H0' H', Ex H0 H0' → Rel K g H0' σ' H' s' → Reps K g.bx H0' ys ds → D'.bk ys σ' H'
  | (.ct, ds), s' => ∀ ys σ' H0' H', Ex H0 H0' → Rel K g H0' σ' H' s' → Reps K g.bx H0' ys ds → D'.ct ys σ' H'
  | (.rt r, ds), s' => ∀ v ys σ' H0' H', Ex H0 H0' → Rel K g H0' σ' H' s' → ResR K g H0' H' v r → Reps K g.bx H0' ys ds → D'.rt ys v H'
def tGn (K : PySem.W.Frag) (mg : Str → Option Value) (g : G β) (W : WX) (m : GM β) : TGn := fun D' ys σ H => ∃ H0 s ds, Rel K g H0 σ H s ∧ Reps K g.bx H0 ys ds ∧ (m ds s).on (GFl K g D' H0) (EscS K mg g W H0)
theorem GFl.back {D' : GEnds} {f : Fl × List D} (h : GFl K g D' H0 f s) (e : Ex H0 H0') : GFl K g D' H0' f s := by
  obtain ⟨f, ds⟩ := f
  cases f with
  | nx => exact fun ys σ' H1 H2 e2 R => h ys σ' H1 H2 (e.trans e2) R
  | bk => exact fun ys σ' H1 H2 e2 R => h ys σ' H1 H2 (e.trans e2) R
  | ct => exact fun ys σ' H1 H2 e2 R => h ys σ' H1 H2 (e.trans e2) R
  | rt r => exact fun v ys σ' H1 H2 e2 R rr => h v ys σ' H1 H2 (e.trans e2) R rr
theorem on_gback {m : Out (S β) (Fl × List D)} {D' : GEnds} (h : m.on (GFl K g D' H0) (EscS K mg g W H0)) (e : Ex H0 H0') : m.on (GFl K g D' H0') (EscS K mg g W H0') := Out.on_imp h (fun _ _ q => q.back e) fun _ _ q => q.back e
end
section
variable {β : Type} {X : Cx} {g : G β} {W : WX} {a b c e tg iter : Expr} {es : List Expr} {st : Stmt} {rest body orelse : List Stmt} {m m' me : M β RV} {mi : M β (List D)} {f : M β Fl} {k k' : GM β} {t : D → M β Unit} {cm : M β Bool} {pos yp : Pos} {tgt : List Nat}
abbrev GSM (X : Cx) (g : G β) (W : WX) (st : Stmt) (m : GM β) : Prop := GS X st (tGn X.K X.mg g W m)
abbrev GSSM (X : Cx) (g : G β) (W : WX) (st : List Stmt) (m : GM β) : Prop := GSs X st (tGn X.K X.mg g W m)
theorem GS.imp {X : Cx} {st : Stmt} {t t' : TGn} (h : GS X st t) (i : ∀ D ys σ H, t' D ys σ H → t D ys σ H) : GS X st t' := ⟨fun A S ip R n ys s₀ c fs K J gd lv s σ H D g hn k hI ht => h.run A S ip R n ys s₀ c fs K J gd lv s σ H D g hn k hI (i D ys σ H ht)⟩
theorem GSs.imp {X : Cx} {st : List Stmt} {t t' : TGn} (h : GSs X st t) (i : ∀ D ys σ H, t' D ys σ H → t D ys σ H) : GSs X st t' := ⟨fun A S ip R n ys s₀ c fs K J gd lv s σ H D g hn k hI ht => h.run A S ip R n ys s₀ c fs K J gd lv s σ H D g hn k hI (i D ys σ H ht)⟩
/-- a statement that hands out nothing -/
theorem y_s (h : PSM X g W st f) : GSM X g W st (gTo f) := GS.imp (gs_ps h) fun D' ys σ H ⟨H0, s, ds, R, ry, q⟩ => by
  unfold gTo at q
  rw [on_bind] at q
  refine ⟨H0, s, R, Out.on_imp q (fun fl s1 q => ?_) fun _ _ q => q⟩
  have q : GFl X.K g D' H0 (fl, ds) s1 := q
  cases fl with
  | nx => exact fun σ' H1 H2 e R1 => q ys σ' H1 H2 e R1 (ry.mono e)
  | bk => exact fun σ' H1 H2 e R1 => q ys σ' H1 H2 e R1 (ry.mono e)
  | ct => exact fun σ' H1 H2 e R1 => q ys σ' H1 H2 e R1 (ry.mono e)
  | rt r => exact fun v σ' H1 H2 e R1 rr => q v ys σ' H1 H2 e R1 rr (ry.mono e)
theorem ys_nil : GSSM X g W [] (fun ys => mret (.nx, ys)) := GSs.imp gss_nil fun D' ys σ H ⟨H0, s, ds, R, ry, q⟩ => q ys σ H0 H (Ex.refl _) R ry
theorem ys_cons (h1 : GSM X g W st k) (h2 : GSSM X g W rest k') : GSSM X g W (st :: rest) (gSeq k k') := GSs.imp (gss_cons h1 h2) fun D' ys σ H ⟨H0, s, ds, R, ry, q⟩ => by
  unfold gSeq at q
  rw [on_bind] at q
  refine ⟨H0, s, ds, R, ry, Out.on_imp q (fun fl s1 q => ?_) fun _ _ q => q⟩
  obtain ⟨fl, es⟩ := fl
  cases fl with
  | nx => exact fun ys' σ' H1 H2 e R' ry' => ⟨H1, s1, es, R', ry', on_gback q e⟩
  | bk => exact q
  | ct => exact q
  | rt r => exact q
theorem y_yld (h : PEM X g W e m) (hco : X.env.scope.isCoroutine = false := by rfl) (hi : interactive X.env = false := by rfl) : GSM X g W (.Expr (.Yield (some e) yp) pos) (gYld m) := GS.imp (gs_yield h.d hco hi) fun D' ys σ H ⟨H0, s, ds, R, ry, q⟩ => by
  unfold gYld at q
  cases hz : decide (ds.length < sizeLine) with
  | false => rw [hz] at q; exact q.elim
  | true =>
    rw [hz] at q
    have q : (mbind m (fun r => mret (Fl.nx, ds ++ [r.d])) s).on _ _ := q
    rw [on_bind] at q
    exact ⟨by rw [ry.len]; exact of_decide_eq_true hz, H0, s, R, Out.on_imp q (fun r s1 q v H1 H2 e R1 rr => q (ys ++ [v]) σ H1 H2 e R1 ((ry.mono e).append (.one rr))) fun _ _ q => q.e⟩
theorem y_if (hc : PTM X g W c cm) (ha : GSSM X g W body k) (hb : GSSM X g W orelse k') : GSM X g W (.If c body orelse pos) (gIf cm k k') := GS.imp (gs_if hc ha hb) fun D' ys σ H ⟨H0, s, ds, R, ry, q⟩ => by
  unfold gIf at q
  rw [on_bind] at q
  refine ⟨H0, s, R, Out.on_imp q (fun b s1 q H1 H2 e R1 => ?_) fun _ _ q => q.e⟩
  cases b with
  | true => rw [if_pos rfl]; exact ⟨H1, s1, ds, R1, ry.mono e, on_gback (show (k ds s1).on _ _ from q) e⟩
  | false => rw [if_neg Bool.false_ne_true]; exact ⟨H1, s1, ds, R1, ry.mono e, on_gback (show (k' ds s1).on _ _ from q) e⟩
theorem y_while (n : Nat) (hp : PassesOwn (model X.prog X.w) X.A X.env X.xe) (hc : PTM X g W c cm) (hb : GSSM X g W body k) : GSM X g W (.While c body [] pos) (gWh n cm k) := GS.imp (gs_while hp hc hb) fun D' ys σ H ⟨H0, s, ds, R, ry, q⟩ => by
  refine ⟨fun n ys σ H => ∃ H1 s ds, Ex H0 H1 ∧ Rel X.K g H1 σ H s ∧ Reps X.K g.bx H1 ys ds ∧ (gWh n cm k ds s).on (GFl X.K g D' H1) (EscS X.K X.mg g W H1), ⟨n, H0, s, ds, Ex.refl _, R, ry, q⟩, ?_⟩
  rintro n ys σ H ⟨H1, s, ds, e1, R, ry, q⟩
  cases n with
  | zero => exact q.elim
  | succ n =>
    have q : (mbind cm (fun b => mIte b (mbind (k ds) (gLoop (gWh n cm k))) (mret (Fl.nx, ds))) s).on _ _ := q
    rw [on_bind] at q
    refine ⟨H1, s, R, Out.on_imp q (fun b s1 q H2 H3 e2 R1 => ?_) fun _ _ q => q.e⟩
    cases b with
    | false => rw [if_neg Bool.false_ne_true]; exact q ys σ H2 H3 e2 R1 (ry.mono e2)
    | true =>
      rw [if_pos rfl]
      have q : (mbind (k ds) (gLoop (gWh n cm k)) s1).on _ _ := q
      rw [on_bind] at q
      refine ⟨fun ys' σ' H' => ∃ H4 s ds, Ex H0 H4 ∧ Rel X.K g H4 σ' H' s ∧ Reps X.K g.bx H4 ys' ds ∧ (gWh n cm k ds s).on (GFl X.K g D' H4) (EscS X.K X.mg g W H4), fun ys' σ' H' h => ⟨n, Nat.lt_succ_self _, h⟩, H2, s1, ds, R1, ry.mono e2, Out.on_imp q (fun fl s2 q => ?_) fun _ _ q => q.back e2⟩
      obtain ⟨fl, es⟩ := fl
      cases fl with
      | nx => exact fun ys' σ' H4 H5 e4 R4 ry4 => ⟨H4, s2, es, (e1.trans e2).trans e4, R4, ry4, on_gback q (e2.trans e4)⟩
      | ct => exact fun ys' σ' H4 H5 e4 R4 ry4 => ⟨H4, s2, es, (e1.trans e2).trans e4, R4, ry4, on_gback q (e2.trans e4)⟩
      | bk => exact fun ys' σ' H4 H5 e4 R4 ry4 => q ys' σ' H4 H5 (e2.trans e4) R4 ry4
      | rt r => exact fun v ys' σ' H4 H5 e4 R4 rr ry4 => q v ys' σ' H4 H5 (e2.trans e4) R4 rr ry4
theorem y_for (hp : PassesOwn (model X.prog X.w) X.A X.env X.xe) (hc : X.calm = true) (hi : PIM X g W tg iter mi) (hg : PGM X g tgt tg t) (hb : GSSM X g W body k) (hs : ∀ x, foldedSetIterable iter X.env x = pure x := by intro _; rfl) : GSM X g W (.For tg iter body [] pos) (gFor mi t k) := GS.imp (gs_for hp hc hi hg hb hs) fun D' ys σ H ⟨H0, s, outs, R, ry, q⟩ => by
  unfold gFor at q
  rw [on_bind] at q
  refine ⟨H0, s, R, Out.on_imp q (fun ds s1 q J H1 H2 e1 R1 wk => ?_) fun _ _ q => q.e⟩
  refine ⟨fun i n ys σ H => i + n = ds.length ∧ ∃ H3 s outs, Ex H1 H3 ∧ Rel X.K g H3 σ H s ∧ Reps X.K g.bx H3 ys outs ∧ (gFr t k (ds.drop i) outs s).on (GFl X.K g D' H3) (EscS X.K X.mg g W H3), ⟨ds.length, by simp, H1, s1, outs, Ex.refl _, R1, ry.mono e1, on_gback q e1⟩, ?_⟩
  rintro i n ys σ H ⟨hk, H3, s, outs, e3, R3, ry3, q⟩
  by_cases hlt : i < ds.length
  · refine .inr ⟨wk.go H i ds[i] (e3.trans R3.r0.sub) (by simp [hlt]), fun ys' σ' H' => ∃ H3 s outs, Ex H1 H3 ∧ Rel X.K g H3 σ' H' s ∧ Reps X.K g.bx H3 ys' outs ∧ (gFr t k (ds.drop (i + 1)) outs s).on (GFl X.K g D' H3) (EscS X.K X.mg g W H3), fun ys' σ' H' h => ⟨n - 1, by omega, by omega, h⟩, fun x H' y => ?_⟩
    obtain ⟨H4, gr, rx⟩ := wk.yld H3 H i ds[i] x H' e3 R3.r0.sub (by simp [hlt]) y
    have R4 := R3.grow gr.e0 gr.e gr.sub gr.new
    rw [show ds.drop i = ds[i] :: ds.drop (i + 1) from List.drop_eq_getElem_cons hlt] at q
    have q : (mbind (noX (t ds[i])) (fun _ => mbind (k outs) (gLoop (gFr t k (ds.drop (i + 1))))) s).on _ _ := q
    rw [on_bind] at q
    refine ⟨H4, s, ds[i], R4, rx, Out.on_imp (on_noX q) (fun _ s5 q σ5 H5 H6 _ e5 R5 => ?_) fun _ _ q => q⟩
    rw [on_bind] at q
    have e35 : Ex H3 H5 := gr.e0.trans e5
    refine ⟨H5, s5, outs, R5, ry3.mono e35, Out.on_imp q (fun fl s6 q => ?_) fun _ _ q => q.back e35⟩
    obtain ⟨fl, es⟩ := fl
    cases fl with
    | nx => exact fun ys' σ' H7 H8 e7 R7 ry7 => ⟨H7, s6, es, (e3.trans e35).trans e7, R7, ry7, on_gback q (e35.trans e7)⟩
    | ct => exact fun ys' σ' H7 H8 e7 R7 ry7 => ⟨H7, s6, es, (e3.trans e35).trans e7, R7, ry7, on_gback q (e35.trans e7)⟩
    | bk => exact fun ys' σ' H7 H8 e7 R7 ry7 => q ys' σ' H7 H8 (e35.trans e7) R7 ry7
    | rt r => exact fun v ys' σ' H7 H8 e7 R7 rr ry7 => q v ys' σ' H7 H8 (e35.trans e7) R7 rr ry7
  · have ei : i = ds.length := by omega
    subst ei
    rw [List.drop_length] at q
    exact .inl ⟨wk.stop H (e3.trans R3.r0.sub), q ys σ H3 H (Ex.refl _) R3 ry3⟩
end
/-! ### the generator def -/
abbrev DefG := List D → Option (List D)
def spG (K : PySem.W.Frag) (n : Nat) (m : DefG) : SpG := fun vs H Q E => ∃ (g : G Unit) (H0 : Hp) (ds out : List D), ds.length = n ∧ Rel0 g H0 H () ∧ Reps K g.bx H0 vs ds ∧ m ds = some out ∧
  (∀ ys H0' H', Ex H0 H0' → Rel0 g H0' H' () → Reps K g.bx H0' ys out → Q ys H')
/-- a generator's body, run on n slots; it raises nothing -/
def runGen (n : Nat) (mb : GM Unit) : DefG := fun ds => match mb [] ⟨ds.map Slot.v ++ List.replicate (n - ds.length) Slot.no, ()⟩ with
  | .ok (.nx, out) _ => some out
  | .ok (.rt (.v .non), out) _ => some out
  | _ => none
section
variable {P : Program} {w : World} {K : PySem.W.Frag} {mg : Str → Option Value} {base : Heap}
theorem gbody_ok {g : G Unit} {H0 H : Hp} {N : List Str} {vs : List V} {ds out : List D} {mb : GM Unit} {W : WX} {Q : List V → Hp → Prop} (r0 : Rel0 g H0 H ()) (rs : Reps K g.bx H0 vs ds)
    (h : runGen N.length mb ds = some out) (k : ∀ ys H0' H', Ex H0 H0' → Rel0 g H0' H' () → Reps K g.bx H0' ys out → Q ys H') :
    tGn K mg g W mb { nx := fun ys _ H' => Q ys H', rt := fun ys v H' => v = .non ∧ Q ys H' } [] (L2.start N vs) H := by
  refine ⟨H0, _, [], start_rel r0 rs, .nil, ?_⟩
  unfold runGen at h
  revert h
  cases mb [] ⟨ds.map Slot.v ++ List.replicate (N.length - ds.length) Slot.no, ()⟩ with
  | bad => exact fun h => by cases h
  | exc x s => exact fun h => by cases h
  | ok f s =>
    obtain ⟨f, es⟩ := f
    intro h
    cases f with
    | nx => cases h; exact fun ys σ' H0' H' e R ry => k ys H0' H' e R.r0 ry
    | bk => cases h
    | ct => cases h
    | rt r =>
      cases r with
      | o _ => cases h
      | v d =>
        cases d <;> cases h
        exact fun v ys σ' H0' H' e R rr ry => ⟨by cases (show Rep K g.bx H0' v .non from rr); rfl, k ys H0' H' e R.r0 ry⟩
structure Dg (P : Program) (w : World) (K : PySem.W.Frag) (mg : Str → Option Value) (base : Heap) (k : Nat) (x : Str) (st : Stmt) (ps : List Str) (kws : List (Str × V)) (f : Addr) (fd : FuncData) (m : DefG) : Prop where
  fn : FunD K x x (defArgs st) (defBody st) (defScope st) [] kws f fd
  gl : mg x = some (.ref f)
  ok : GFn P w K mg base k f fd ps (spG K ps.length m)
theorem dg_mk {x : Str} {st : Stmt} {ps N : List Str} {kws : List (Str × V)} {f : Addr} {fd : FuncData} {k : Nat} {mb : GM Unit} (F : FunD K x x (defArgs st) (defBody st) (defScope st) [] kws f fd) (gl : mg x = some (.ref f)) (S : GScope N ps (defScope st))
    (hb : ∀ (cdv : Value) (A : Around) (outer : List Env) (s : Shared) (H : Hp) (E : XK) (g : G Unit) (pn : List (Addr × Obj)), Room k (A.deeper (PyProof.Rows.envOfC x (defScope st) s.heap.objs.size f cdv)) → GSSM (gcxOf P w K mg base N x (defScope st) f cdv A outer s H E pn) g (fun c d _ H => E c d H) (defBody st) mb) :
    Dg P w K mg base (k + 1) x st ps kws f fd (runGen N.length mb) := by
  refine ⟨F, gl, ?_⟩
  obtain ⟨oc, od, dV, kV, doc, pm, an, cdv, ct, osl, rfl, lk, hcd, hD, hK⟩ := F.ex
  refine gfn_of lk hcd S (fun vs H Q E ⟨g, H0, ds, out, hn, _, rs, _⟩ => by rw [rs.len, hn]) fun A outer s H vs Q E pn hr ⟨g, H0, ds, out, hn, r0, rs, ho, kk⟩ => ⟨_, hb cdv A outer s H E g pn hr, gbody_ok r0 rs ho kk⟩
end
/-! ### list(gen(..)) -/
section
variable {β : Type} {K : PySem.W.Frag} {mg : Str → Option Value} {g : G β} {W : WX} {H0 H H0' H' : Hp} {σ : L2.St} {s s' : S β} {v : V} {r : RV} {vs : List V} {as : List Arg} {ds : List D} {n : Nat} {Q : VK}
def noBs (as : List Arg) : M β (List D) := mIte (noB as) (rsl as) mbad
/-- list(f(..)), f a generator def of n parameters (ex: the defaults that lack) -/
def callG (n : Nat) (m : DefG) (ms : M β (List Arg)) : M β RV := mbind ms fun as => mIte (as.length == n && noB as) (mbind (rsl as) fun ds => mbind (opt (m ds)) fun out => mret (.o out)) mbad
theorem spG_use {m : DefG} {out : List D} {Q : List V → Hp → Prop} {E : XK} (R : Rel K g H0 σ H s) (rs : Reps K g.bx H0 vs ds) (hn : ds.length = n) (ho : m ds = some out)
    (h : ∀ ys H0' H', Ex H0 H0' → Rel K g H0' σ H' s → Reps K g.bx H0' ys out → Q ys H') : spG K n m vs H Q E := by
  obtain ⟨o, hb, ib⟩ := R.r0.it
  refine ⟨⟨g.bx, fun _ _ o' => o' = o, fun _ h => h, frameOf g.bx H0 H, []⟩, H0, ds, out, hn, ⟨R.r0.sub, frameOf_sub, frameOf_dis, R.r0.bxn, frameOf_bx, ⟨o, hb, rfl⟩, TabsR.nil⟩, rs, ho, fun ys H1 H2 e1 r1 ry => ?_⟩
  have it : ∃ o, H2 g.bx = some o ∧ g.itp H1 s.bx o := by
    obtain ⟨o', hb', hit⟩ := r1.it
    have hit : o' = o := hit
    subst hit
    exact ⟨o', hb', g.mono e1 ib⟩
  obtain ⟨R2, _, _⟩ := R.called (b' := s.bx) (v := .non) (r := .v .non) r1 rfl frameT_nil.symm (.inl rfl) e1 it .non
  exact h ys H1 H2 e1 R2 ry
theorem callG_sp {m : DefG} {ms : M β (List Arg)} {E : XK} (h : tE K mg g W (callG n m ms) σ H Q) : tAB K mg g W ms σ H fun vs H1 => spG K n m vs H1 (fun out H2 => ∀ p, H2 p = none → Q (.ref p) (upd H2 p (.lst out))) E := by
  obtain ⟨H0, s, R, h⟩ := h
  unfold callG at h
  rw [on_bind] at h
  refine ⟨H0, s, R, Out.on_imp h (fun as s1 h vs H1 H2 e1 R1 ra => ?_) fun _ _ q => q⟩
  cases hl : (as.length == n && noB as) with
  | false => rw [hl] at h; exact h.elim
  | true =>
    rw [hl] at h
    rw [Bool.and_eq_true] at hl
    have h : (mbind (rsl as) (fun ds => mbind (opt (m ds)) fun out => mret (RV.o out)) s1).on _ _ := h
    rw [on_bind, on_rsl] at h
    obtain ⟨ds, eds, h⟩ := h
    rw [on_bind, on_opt] at h
    obtain ⟨out, ho, h⟩ := h
    have rs := res_plain ra hl.2 eds
    refine spG_use R1 rs (by rw [← rs.len, ra.len]; exact of_decide_eq_true hl.1) ho fun ys H3 H4 e3 R3 ry p hp => ?_
    exact (fin_of2 (r := .o out) R3 fun z H5 H6 e5 R5 rr ap => h z H5 H6 ((e1.trans e3).trans e5) R5 rr ap).lst R3.r0.sub ry hp
end
end DL

set_option Elab.async false
set_option linter.all false
set_option maxRecDepth 100000
namespace DL
open PySem PySem.Spec L2
/-! ### list(f(..)) of a generator def -/
/-- a generator def by its name; dfl: what fills up the keyword-only parameters at the end -/
def Gx (P : Program) (w : World) (K : PySem.W.Frag) (mg : Str → Option Value) (base : Heap) (k : Nat) (x : Str) (st : Stmt) (ps : List Str) (dfl : List D) (m : DefG) : Prop :=
  ∃ f fd kws dvs ds, Dg P w K mg base k x st ps kws f fd m ∧ Vals dvs ds ∧ Binds K fd ps ds ∧ (∀ bx H, Reps K bx H dvs dfl)
section
variable {β : Type} {X : Cx} {g : G β} {W : WX} {a b c e tg : Expr} {es : List Expr} {kws : List Keyword} {m : M β RV} {ma mb : M β Arg} {ms mk : M β (List Arg)} {ls : M β (List D)} {pos lpos p q kpos : Pos} {x nm : Str} {st : Stmt} {ps ks : List Str} {k k' n : Nat} {dfl : List D} {mg' : DefG}
def dflM (dfl : List D) (ms : M β (List Arg)) : M β (List Arg) := mbind ms fun as => mret (as ++ dfl.map Arg.v)
theorem argsV {K : PySem.W.Frag} {H0 : Hp} {σ : L2.St} : ∀ {vs : List V} {ds : List D}, Reps K g.bx H0 vs ds → ArgsR K g H0 σ vs (ds.map Arg.v)
  | [], [], _ => .nil
  | v :: vs, d :: ds, r => .cons (r.get 0 v d rfl rfl) (argsV ⟨by have := r.len; simpa using this, fun i y z h h' => r.get (i + 1) y z (by simpa using h) (by simpa using h')⟩)
  | [], _ :: _, r => absurd r.len (by simp)
  | _ :: _, [], r => absurd r.len (by simp)
theorem dflM_use {K : PySem.W.Frag} {mg : Str → Option Value} {σ : L2.St} {H : Hp} {P : List V → Hp → Prop} {dvs : List V} (hd : ∀ bx H, Reps K bx H dvs dfl) (h : tAB K mg g W (dflM dfl ms) σ H P) : tAB K mg g W ms σ H fun vs H1 => P (vs ++ dvs) H1 := by
  obtain ⟨H0, s, R, h⟩ := h
  unfold dflM at h
  rw [on_bind] at h
  exact ⟨H0, s, R, Out.on_imp h (fun as s1 h vs H1 H2 e1 R1 ra => h _ H1 H2 e1 R1 (ra.append (argsV (hd g.bx H1)))) fun _ _ q => q⟩
abbrev EF : XK := fun _ _ _ => False
theorem passF : Passes (L2.CX X.prog X.w) X EF := fun pins σ H s e s' I h => by
  obtain ⟨_, _, _, _, _, _, _, _, _, _, _, _, z⟩ := h
  exact z.elim
theorem noStopF {K : PySem.W.Frag} : NoStop K EF := fun _ _ _ h => h.elim
/-- list(f(e, ..)), the keyword-only parameters left out -/
theorem e_gP {N : Nat} (F : Gx X.prog X.w X.K X.mg X.base k x st ps dfl mg') (hr : Room k' X.A) (hl : X.mg "list" = none) (ha : PABM X g W (e :: es) ms) (hk : k + 3 ≤ k' := by decide) (hg : Gl X x := by rfl) (hgl : Gl X "list" := by rfl)
    (hdb : (x == ("__debug__" : Str)) = false := by decide) (he : starEach (e :: es) X.env = (false, eval e X.env) :: starEach es X.env := by rfl) (hpl : (backTo pos (starEach es X.env)).any (·.1) = false := by rfl) (hN : ps.length = N := by rfl)
    (he' : starEach [.Call (.Name x p) (e :: es) [] pos] X.env = (false, eval (.Call (.Name x p) (e :: es) [] pos) X.env) :: starEach [] X.env := by rfl) :
    PEM X g W (.Call (.Name "list" q) [.Call (.Name x p) (e :: es) [] pos] [] lpos) (callG N mg' (dflM dfl ms)) := by
  subst hN
  obtain ⟨f, fd, kwv, dvs, ds, D, hv, hb, hd⟩ := F
  exact PE.imp (pe_listG (pgen_call (E := EF) D.ok (hr.mono (by omega)) hg D.gl D.fn.kp hb hv ha hdb he hpl) passF noStopF (hr.mono hk) hgl hl (by decide +kernel) (he := he')) fun σ H Q h => dflM_use hd (callG_sp (E := EF) h)
section
variable {f : Addr} {fd : FuncData} {sp : SpG} {t tk : TA} {E : XK} {pi : List Nat}
def tKwG (n nk : Nat) (pi : List Nat) (sp : SpG) (E : XK) (t tk : TA) : TGen := fun σ H cont => t σ H fun vs H1 => tk σ H1 fun zs H2 => vs.length = n ∧ zs.length = nk ∧ sp (perm pi (vs ++ zs)) H2 cont E
theorem run_gkw {pins : List (Addr × Obj)} {σ : L2.St} {H : Hp} {s : Shared} {us ws : List Value} {vs zs : List V} {cont : List V → Hp → Prop} {E1 : Value → Shared → Prop} (F : GFn X.prog X.w X.K X.mg X.base k f fd ps sp) (hr : Room k X.A) (hb : KwB X.K fd ps n ks pi)
    (I : Inv X pins σ H s) (r : Vals vs us) (rz : Vals zs ws) (l1 : vs.length = n) (l2 : zs.length = ks.length) (h : sp (perm pi (vs ++ zs)) H cont E) :
    wpAny (model X.prog X.w) X.A (call (.ref f) us (ks.zip ws)) (fun u s' => ∃ H1 sc ex, Inv X pins σ H1 sc ∧ ExOk X pins ex ∧ GMade X.prog X.w k X.stack H1 sc ex cont E u s') E1 s := by
  have r2 := perm_vals (r.append rz) pi
  refine wpAny_call (codeAny_mono (F.run X.A X.stack s H ⟨us, ks.zip ws⟩ (perm pi (us ++ ws)) (perm pi (vs ++ zs)) cont E hr I.env0 (hb s us ws I.kIn (r.length.symm.trans l1) (rz.length.symm.trans l2)) r2 h) fun r s' hq => ?_)
  cases r with
  | error e => exact False.elim hq
  | ok fl =>
    cases fl with
    | ret u => exact ⟨H, s, [], I, .nil, hq⟩
    | next => exact False.elim hq
    | brk => exact False.elim hq
    | cont => exact False.elim hq
open PyProof.Rows in
theorem pgen_kw (F : GFn X.prog X.w X.K X.mg X.base k f fd ps sp) (hr : Room k X.A) (hg : Gl X x) (hm : X.mg x = some (.ref f)) (hk : PySem.W.keepIn X.K (.ref f) = true) (hb : KwB X.K fd ps n ks pi)
    (ha : PA X (e :: es) t) (hkw : PK X kws tk) (hall : (backToKw pos (keywordEach kws X.env)).all (·.1.isSome) = true) (hks : (backToKw pos (keywordEach kws X.env)).filterMap (·.1) = ks)
    (hdb : (x == ("__debug__" : Str)) = false) (he : starEach (e :: es) X.env = (false, eval e X.env) :: starEach es X.env)
    (hpl : ((backTo pos (starEach (e :: es) X.env)).any (·.1) || (backToKw pos (keywordEach kws X.env)).any (·.1.isNone)) = false) :
    PGen X k (.Call (.Name x p) (e :: es) kws pos) (tKwG n ks.length pi sp E t tk) E := by
  refine ⟨fun pins s σ H cont I h => ?_⟩
  refine wpAny_Call_Name_kw (ld_glob I hg hm ?_ hdb)
  refine PySem.W.callWith_KW (h₀ := X.base) I.ok.mod.kin hk hall (thn (ha.run pos pins s σ H _ I h) fun us s1 ⟨vs, H1, I1, r, q⟩ => ?_) hpl he
  refine thn (hkw.run pos pins s1 σ H1 _ I1 q) fun ws s2 ⟨zs, H2, I2, rz, l1, l2, q2⟩ => ⟨I2.kIn, ?_⟩
  rw [hks]
  exact run_gkw F hr hb I2 r rz l1 l2 q2
open PyProof.Rows in
theorem pgen_kw0 (F : GFn X.prog X.w X.K X.mg X.base k f fd ps sp) (hr : Room k X.A) (hg : Gl X x) (hm : X.mg x = some (.ref f)) (hk : PySem.W.keepIn X.K (.ref f) = true) (hb : KwB X.K fd ps 0 ks pi)
    (hkw : PK X kws tk) (hall : (backToKw pos (keywordEach kws X.env)).all (·.1.isSome) = true) (hks : (backToKw pos (keywordEach kws X.env)).filterMap (·.1) = ks)
    (hdb : (x == ("__debug__" : Str)) = false) (hpl : ((backTo pos (starEach [] X.env)).any (·.1) || (backToKw pos (keywordEach kws X.env)).any (·.1.isNone)) = false) :
    PGen X k (.Call (.Name x p) [] kws pos) (tKwG 0 ks.length pi sp E tNil tk) E := by
  refine ⟨fun pins s σ H cont I h => ?_⟩
  refine wpAny_Call_Name_kw (ld_glob I hg hm ?_ hdb)
  refine PySem.W.callWith_KW0 (h₀ := X.base) I.ok.mod.kin hk hall ?_ hpl
  refine thn (hkw.run pos pins s σ H _ I h) fun ws s2 ⟨zs, H2, I2, rz, l1, l2, q2⟩ => ⟨I2.kIn, ?_⟩
  rw [hks]
  exact run_gkw F hr hb I2 .nil rz l1 l2 q2
theorem kwBd {K : PySem.W.Frag} {kwv : List (Str × V)} (F : FunD K x x (defArgs st) (defBody st) (defScope st) [] kwv f fd) (h : KwT x st ps n ks pi) : KwB K fd ps n ks pi := by
  obtain ⟨oc, od, dV, kV, doc, pm, an, cdv, ct, osl, rfl, lk, hcd, hD, hK⟩ := F.ex
  rcases hD with ⟨_, rfl⟩ | ⟨e, _⟩
  · exact fun s us ws _ l1 l2 => .of_eq (h kV doc pm an cdv ct us ws l1 l2)
  · exact absurd rfl e
end
theorem e_gK {N nk : Nat} (pi : List Nat) (F : Gx X.prog X.w X.K X.mg X.base k x st ps dfl mg') (hr : Room k' X.A) (hl : X.mg "list" = none) (h : KwT x st ps n ks pi) (ha : PABM X g W (e :: es) ms) (hkw : PKBM X g W kws mk) (hk : k + 3 ≤ k' := by decide) (hg : Gl X x := by rfl) (hgl : Gl X "list" := by rfl)
    (hall : (backToKw pos (keywordEach kws X.env)).all (·.1.isSome) = true := by rfl) (hks : (backToKw pos (keywordEach kws X.env)).filterMap (·.1) = ks := by rfl)
    (hdb : (x == ("__debug__" : Str)) = false := by decide) (he : starEach (e :: es) X.env = (false, eval e X.env) :: starEach es X.env := by rfl)
    (hpl : ((backTo pos (starEach (e :: es) X.env)).any (·.1) || (backToKw pos (keywordEach kws X.env)).any (·.1.isNone)) = false := by rfl) (hN : ps.length = N := by rfl) (hnk : ks.length = nk := by rfl)
    (he' : starEach [.Call (.Name x p) (e :: es) kws pos] X.env = (false, eval (.Call (.Name x p) (e :: es) kws pos) X.env) :: starEach [] X.env := by rfl) :
    PEM X g W (.Call (.Name "list" q) [.Call (.Name x p) (e :: es) kws pos] [] lpos) (callG N mg' (kwA n nk pi ms mk)) := by
  subst hN hnk
  obtain ⟨f, fd, kwv, dvs, ds, D, hv, hb, hd⟩ := F
  exact PE.imp (pe_listG (pgen_kw (E := EF) D.ok (hr.mono (by omega)) hg D.gl D.fn.kp (kwBd D.fn h) ha hkw hall hks hdb he hpl) passF noStopF (hr.mono hk) hgl hl (by decide +kernel) (he := he')) fun σ H Q z => kw_use (callG_sp (E := EF) z)
theorem e_gK0 {N nk : Nat} (pi : List Nat) (F : Gx X.prog X.w X.K X.mg X.base k x st ps dfl mg') (hr : Room k' X.A) (hl : X.mg "list" = none) (h : KwT x st ps 0 ks pi) (hkw : PKBM X g W kws mk) (hk : k + 3 ≤ k' := by decide) (hg : Gl X x := by rfl) (hgl : Gl X "list" := by rfl)
    (hall : (backToKw pos (keywordEach kws X.env)).all (·.1.isSome) = true := by rfl) (hks : (backToKw pos (keywordEach kws X.env)).filterMap (·.1) = ks := by rfl)
    (hdb : (x == ("__debug__" : Str)) = false := by decide) (hpl : ((backTo pos (starEach [] X.env)).any (·.1) || (backToKw pos (keywordEach kws X.env)).any (·.1.isNone)) = false := by rfl) (hN : ps.length = N := by rfl) (hnk : ks.length = nk := by rfl)
    (he' : starEach [.Call (.Name x p) [] kws pos] X.env = (false, eval (.Call (.Name x p) [] kws pos) X.env) :: starEach [] X.env := by rfl) :
    PEM X g W (.Call (.Name "list" q) [.Call (.Name x p) [] kws pos] [] lpos) (callG N mg' (kwA 0 nk pi (mret []) mk)) := by
  subst hN hnk
  obtain ⟨f, fd, kwv, dvs, ds, D, hv, hb, hd⟩ := F
  refine PE.imp (pe_listG (pgen_kw0 (E := EF) D.ok (hr.mono (by omega)) hg D.gl D.fn.kp (kwBd D.fn h) hkw hall hks hdb hpl) passF noStopF (hr.mono hk) hgl hl (by decide +kernel) (he := he')) fun σ H Q z => ?_
  obtain ⟨H0, s, R, z⟩ := kw_use (callG_sp (E := EF) z)
  exact z [] H0 H (Ex.refl _) R .nil
/-! ### starred items of a display -/
def strC (ma : M β Arg) (ls : M β (List D)) : M β (List D) := mbind ma fun a => mbind (rsl [a]) fun ds => mbind (opt (ds.head?.bind itD)) fun es => mbind ls fun fs => mret (es ++ fs)
theorem l_star (ha : PBM X g W e ma) (hr : PAM X g W es ls) (hs : starEach (.Starred e p :: es) X.env = (true, eval e X.env) :: starEach es X.env := by rfl) : PAM X g W (.Starred e p :: es) (strC ma ls) := PA.imp (StX.pa_star ha hr hs) fun σ H Q ⟨H0, s, R, q⟩ => by
  unfold strC at q
  rw [on_bind] at q
  refine ⟨H0, s, R, Out.on_imp q (fun a s1 q v H1 H2 e1 R1 ra => ?_) fun _ _ q => q⟩
  rw [on_bind, on_rsl] at q
  obtain ⟨ds, eds, q⟩ := q
  obtain ⟨d, rfl, ct⟩ := R1.cont ra eds
  rw [on_bind, on_opt] at q
  obtain ⟨xs, ex, q⟩ := q
  have ex : itD d = some xs := ex
  have key : ∃ p vs, v = .ref p ∧ (SqT X.K H2 p vs ∨ SqL X.K H2 p vs) ∧ Reps X.K g.bx H1 vs xs := by
    cases d with
    | tup zs =>
      cases ex
      cases (show Rep X.K g.bx H1 v (.tup xs) from ct) with
      | tup h l z => exact ⟨_, _, rfl, .inl (R1.r0.sub.t h), ⟨l, z⟩⟩
    | lst zs =>
      cases ex
      obtain ⟨p, vs, rfl, hp, rs⟩ := ct
      exact ⟨p, vs, rfl, .inr (.of hp), rs⟩
    | _ => cases ex
  obtain ⟨p, vs, rfl, hsq, rs⟩ := key
  rw [on_bind] at q
  exact ⟨p, vs, rfl, hsq, H1, s1, R1, Out.on_imp q (fun fs s2 q ys H3 H4 e2 R2 ry => q (vs ++ ys) H3 H4 (e1.trans e2) R2 ((rs.mono e2).append ry)) fun _ _ q => q.back e1⟩
/-! ### range(i, j, c) -/
def rgC (lo c : Int) (n : Nat) : List D := (List.range n).map fun i : Nat => D.int (lo + (i : Int) * c)
/-- how many steps -/
def rgN (i j c : Int) : Nat := if 0 < c then ((j - i + c - 1) / c).toNat else ((i - j - c - 1) / (-c)).toNat
def rngD3 : List D → Option (List D)
  | [.int i, .int j, .int c] => if c ≠ 0 ∧ c.natAbs < 1073741824 ∧ Builtin.Range.small i j c = true ∧ Builtin.Range.rangeSize i j c = (rgN i j c : Int) then some (rgC i c (rgN i j c)) else none
  | _ => none
def rngM3 (ls : M β (List D)) : M β (List D) := mbind ls fun ds => opt (rngD3 ds)
theorem rgC_length (lo c : Int) (n : Nat) : (rgC lo c n).length = n := by unfold rgC; simp
theorem walks_c {K : PySem.W.Frag} {bx : Addr} {H0 : Hp} {lo c : Int} {n : Nat} : Walks K bx (Itc lo c n) H0 (rgC lo c n) := by
  refine ⟨fun H e => by show n ≤ (rgC lo c n).length; rw [rgC_length]; exact Nat.le_refl _, fun H i d e hd => ?_, fun Ht H i d x H' e0 e hd y => ?_⟩
  · have := (List.getElem?_eq_some_iff.mp hd).1
    rw [rgC_length] at this
    exact this
  · obtain ⟨rfl, rfl⟩ := y
    have hi' := (List.getElem?_eq_some_iff.mp hd).1
    rw [rgC_length] at hi'
    unfold rgC at hd
    rw [List.getElem?_map, List.getElem?_range hi'] at hd
    cases hd
    exact ⟨Ht, Grow.refl e, .int⟩
theorem i_range3 (hm : X.mg "range" = none) (ha : PAM X g W [a, b, c] ls) (hg : Gl X "range" := by rfl) (hs : starEach [a, b, c] X.env = (false, eval a X.env) :: starEach [b, c] X.env := by rfl) (hpl : (backTo pos (starEach [b, c] X.env)).any (·.1) = false := by rfl) : PIM X g W tg (.Call (.Name "range" p) [a, b, c] [] pos) (rngM3 ls) := PI.imp (pi_range3 hg hm ha hs hpl) fun σ H Q ⟨H0, s, R, q⟩ => by
  unfold rngM3 at q
  rw [on_bind] at q
  refine ⟨H0, s, R, Out.on_imp q (fun r s1 q v H1 H2 e1 R1 rr => ?_) fun _ _ q => q⟩
  rw [on_opt] at q
  obtain ⟨ds, ed, q⟩ := q
  unfold rngD3 at ed
  split at ed
  · rename_i i j k
    split at ed
    · rename_i hj
      cases ed
      obtain ⟨v, ws, rfl, r1, rs⟩ := rr.cases_cons
      obtain ⟨u, w, rfl, r2, r3⟩ := rs.cases2
      cases r1; cases r2; cases r3
      exact ⟨i, j, k, _, rfl, hj, q _ H1 H2 e1 R1 walks_c⟩
    · cases ed
  · cases ed
/-! ### what is never come to -/
theorem s_never : PSM X g W st mbad := PS.imp ps_never fun D σ H ⟨H0, s, R, q⟩ => q
theorem ss_never {sts : List Stmt} : PSSM X g W sts mbad := PSs.imp pss_never fun D σ H ⟨H0, s, R, q⟩ => q
end
end DL

set_option Elab.async false
set_option linter.all false
set_option maxRecDepth 100000
namespace DL
open PySem PySem.Spec L2
/-! ### isinstance(x, T), T a built-in type -/
def tyD : D → Option String
  | .non => some "NoneType"
  | .bl _ => some "bool"
  | .int _ => some "int"
  | .str _ => some "str"
  | .tup _ => some "tuple"
  | .lst _ => some "list"
  | .box => none
  | .dct _ => some "dict"
  | .exc _ _ => none
  | .ins _ _ => none
def isiD (T : String) (d : D) : Option RV := (tyD d).map fun a => .v (.bl (a == T || (a == "bool" && T == "int")))
def tyNames : List String := ["NoneType", "bool", "int", "str", "tuple", "list", "dict"]
def isNames : List String := ["bool", "int", "str", "tuple", "list", "dict"]
theorem kit_all : (tyNames.all fun a => isNames.all fun b => kitB a b == some (a == b || (a == "bool" && b == "int"))) = true := by decide +kernel
theorem ty_kit {K : PySem.W.Frag} {a b : String} (ha : a ∈ tyNames) (hb : b ∈ isNames) : PySem.W.kitOne K (.type a) (.type b) = some (a == b || (a == "bool" && b == "int")) :=
  kit_ty (eq_of_beq (List.all_eq_true.mp (List.all_eq_true.mp kit_all a ha) b hb))
theorem ty_cont {K : PySem.W.Frag} {bx : Addr} {H0 H : Hp} {v : V} {d : D} {a : String} (c : Cont K bx H0 H v d) (sub : Ex H0 H) (h : tyD d = some a) : TyX K H v (.type a) ∧ a ∈ tyNames := by
  cases d with
  | non => cases h; cases (show Rep K bx H0 v .non from c); exact ⟨.base .non, by decide⟩
  | bl b => cases h; cases (show Rep K bx H0 v (.bl b) from c); exact ⟨.base (.bl b), by decide⟩
  | int i => cases h; cases (show Rep K bx H0 v (.int i) from c); exact ⟨.base (.int i), by decide⟩
  | str x => cases h; cases (show Rep K bx H0 v (.str x) from c); exact ⟨.base (.str x), by decide⟩
  | tup ds =>
    cases h
    refine ⟨?_, by decide⟩
    cases (show Rep K bx H0 v (.tup ds) from c) with
    | tup h l z =>
      rcases sub.t h with (h | ⟨o, h⟩) | ⟨o, its, n, h1, h2, _⟩
      · exact .base (.tup h)
      · exact .fTuple h
      · exact .kTuple h1 h2
  | lst ds =>
    cases h
    obtain ⟨p, vs, rfl, hp, _⟩ := c
    exact ⟨.base (.lst hp), by decide⟩
  | box => cases h
  | dct ks =>
    cases h
    cases (show Rep K bx H0 v (.dct ks) from c) with
    | dct h l z => exact ⟨.base (.dK (sub _ _ h)), by decide⟩
  | exc c fs => cases h
  | ins c fs => cases h
section
variable {β : Type} {X : Cx} {g : G β} {W : WX} {a b c e tg iter tg1 iter1 elt : Expr} {es ifs ifs1 : List Expr} {m : M β RV} {ma mb : M β Arg} {ms : M β (List Arg)} {ls : M β (List D)} {pos lpos p q kpos : Pos} {x nm : Str} {st : Stmt}
def isiM (T : String) (ma : M β Arg) : M β RV := mbind ma fun a => mbind (rsl [a]) fun ds => opt (ds.head?.bind (isiD T))
theorem e_isi (T : String) (hI : X.mg "isinstance" = none) (hT : X.mg x = none) (ha : PBM X g W e ma) (hT2 : bootBuiltins x = some (.type T) := by decide +kernel) (hmem : T ∈ isNames := by decide) (hg : Gl X "isinstance" := by rfl) (hgx : Gl X x := by rfl)
    (hn : x ≠ "__name__" := by decide) (hdx : (x == ("__debug__" : Str)) = false := by decide) (he : starEach [e, .Name x q] X.env = (false, eval e X.env) :: starEach [.Name x q] X.env := by rfl) (he2 : starEach [.Name x q] X.env = (false, eval (.Name x q) X.env) :: starEach [] X.env := by rfl) (hpl : (backTo pos (starEach [.Name x q] X.env)).any (·.1) = false := by rfl) :
    PEM X g W (.Call (.Name "isinstance" p) [e, .Name x q] [] pos) (isiM T ma) :=
  PE.imp (pe_callB call_isi hg hI PyProof.Rows.boot_isinstance (pa_cons ha (pa_cons (pe_bltn (v := .ty T) hgx hT hT2 rfl hn hdx) pa_nil he2) he) (he := he) (hpl := hpl)) fun σ H Q ⟨H0, s, R, z⟩ => by
    unfold isiM at z
    rw [on_bind] at z
    refine ⟨H0, s, R, Out.on_imp z (fun a s1 z v H1 H2 e1 R1 ra => ?_) fun _ _ q => q⟩
    rw [on_bind, on_rsl] at z
    obtain ⟨ds, eds, z⟩ := z
    obtain ⟨d, rfl, ct⟩ := R1.cont ra eds
    rw [on_opt] at z
    obtain ⟨rz, ez, z⟩ := z
    have ez : isiD T d = some rz := ez
    unfold isiD at ez
    rw [Option.map_eq_some_iff] at ez
    obtain ⟨A, hA, rfl⟩ := ez
    obtain ⟨ty, hm⟩ := ty_cont ct R1.r0.sub hA
    exact ⟨v, .ty T, _, _, _, rfl, .ty T, ty, ty_kit hm hmem, z _ H1 H2 e1 R1 .bl trivial⟩
/-! ### xs[i] op= e -/
def rGetL (K : PySem.W.Frag) : V → V → Hp → VK → Prop := fun o i H Q => ∃ p xs k v, o = .ref p ∧ i = .int k ∧ SqL K H p xs ∧ atI xs k = some v ∧ Q v H
theorem get_lst : PGet X (rGetL X.K) := by
  intro pins s σ H o i ov iv Q I ro ri h
  obtain ⟨p, xs, k, z, rfl, rfl, hq, he, q⟩ := h
  cases ro
  obtain ⟨t, rfl⟩ := ri
  obtain ⟨its, r, pl, hz⟩ := I.list hq
  obtain ⟨j, h1, h2, h3, h4, h5⟩ := atI_get he
  obtain ⟨w, ew, rw'⟩ := r.get h2
  have hl := r.length
  have hn := line63
  have fin : EP X pins σ Q w s := ⟨z, H, I, rw', q⟩
  by_cases h0 : 0 ≤ k
  · have hj : k.toNat = j := by
      rw [seqIndex_of h0 h5] at h1
      exact Option.some.inj h1
    exact wpAny_getItem_list pl.isList h0 (by omega) (by rw [hj]; simpa using ew) fin
  · have hj : (k + (its.toArray.size : Int)).toNat = j := by
      rw [seqIndex_neg (by omega) h4] at h1
      rw [List.size_toArray, ← hl]
      exact Option.some.inj h1
    exact wpAny_getItem_list_neg pl.isList (by omega) (by rw [List.size_toArray] <;> omega) (by omega) (by rw [hj]; simpa using ew) fin
def aixM (i : Nat) (fo : D → D → Option RV) (mi me : M β RV) : M β Fl := mbind (ownAt i) fun _ => mbind mi fun y => mbind (ownAt i) fun ds => mbind (opt ((asI y.d).bind fun k => atI ds k)) fun d => mbind me fun z => mbind (opt ((fo d z.d).filter scalR)) fun r =>
  mbind (ownAt i) fun ds' => mbind (opt ((asI y.d).bind fun k => ixN ds'.length k)) fun j => mbind (putO i (ds'.set j r.d)) fun _ => mret .nx
theorem Reps.atI {K : PySem.W.Frag} {bx : Addr} {H : Hp} {vs : List V} {ds : List D} {k : Int} {d : D} (rs : Reps K bx H vs ds) (h : atI ds k = some d) : ∃ v, L2.atI vs k = some v ∧ Rep K bx H v d := by
  unfold L2.atI at h ⊢
  rw [rs.len]
  cases e : ixN ds.length k with
  | none => rw [e] at h; cases h
  | some j => rw [e] at h; exact rs.at h
theorem s_aix (i : Nat) {x : Str} {op : Operator} {fo : D → D → Option RV} {mi me : M β RV} {p pos' : Pos} (hop : Aug X op fo) (he : PEM X g W e me) (hi : PEM X g W b mi) (hN : X.N[i]? = some x := by rfl) (hv : Vis X.env.scope x := by first | exact Or.inl rfl | exact Or.inr (Or.inl rfl) | exact Or.inr (Or.inr rfl)) (hd : (x == ("__debug__" : Str)) = false := by decide)
    (hcd : (x == ("__classdict__" : Str)) = false := by decide) (ha : ∀ ov iv new, augStore b ov iv new = (do holding [new, ov, iv] (setItem ov iv new); release [new, ov, iv] []; pure .next) := by intros; rfl) :
    PSM X g W (.AugAssign (.Subscript (.Name x p) b pos') op e pos) (aixM i fo mi me) := by
  obtain ⟨r, ho, ok⟩ := hop.ex
  refine PS.imp (ps_augS (pe_var hN hv hd hcd) hi.d get_lst he.d (show PIp X op r from ho) set_list ha) fun D σ H ⟨H0, s, R, q⟩ => ?_
  unfold aixM at q
  rw [on_bind] at q
  obtain ⟨ds0, hs0, q⟩ := on_ownAt q
  obtain ⟨p1, hσ, vs0, hp0, _⟩ := R.own_at hs0
  rw [on_bind] at q
  refine ⟨.ref p1, hσ, H0, s, R, Out.on_imp q (fun y s1 q u H1 H2 e1 R1 ru => ?_) fun _ _ q => q.e⟩
  rw [on_bind] at q
  obtain ⟨ds, hs1, q⟩ := on_ownAt q
  obtain ⟨p2, hσ2, vs, hp2, rs, _⟩ := R1.own_at hs1
  rw [hσ] at hσ2; cases hσ2
  rw [on_bind, on_opt] at q
  obtain ⟨d, ed, q⟩ := q
  rw [Option.bind_eq_some_iff] at ed
  obtain ⟨k, ek, ed⟩ := ed
  rw [asI_eq ek] at ru
  cases ru
  obtain ⟨v, hv', rv⟩ := rs.atI ed
  refine ⟨p1, vs, k, v, rfl, rfl, .of hp2, hv', ?_⟩
  rw [on_bind] at q
  refine ⟨H1, s1, R1, Out.on_imp q (fun z s2 q w H3 H4 e2 R2 rw' => ?_) fun _ _ q => (q.back e1).e⟩
  rw [on_bind, on_opt] at q
  obtain ⟨rz, ez, q⟩ := q
  rw [Option.filter_eq_some_iff] at ez
  obtain ⟨ez, hsc⟩ := ez
  refine ok g.bx H3 H4 v w d z.d rz _ R2.r0.sub (rv.mono e2) rw' ez (fin_of2 R2 fun t H5 H6 e3 R3 rt ap => ?_)
  rw [on_bind] at q
  obtain ⟨ds2, hs2, q⟩ := on_ownAt q
  obtain ⟨p3, hσ3, vs3, hp3, rs3, _⟩ := R3.own_at hs2
  rw [hσ] at hσ3; cases hσ3
  rw [on_bind, on_opt] at q
  obtain ⟨j, ej, q⟩ := q
  rw [Option.bind_eq_some_iff] at ej
  obtain ⟨k', ek', ej⟩ := ej
  rw [ek] at ek'
  cases ek'
  have rd : Rep X.K g.bx H5 t rz.d := by
    cases rz with
    | v d' => exact rt
    | o _ => cases hsc
  exact ⟨p1, vs3, k, j, rfl, rfl, hp3, by rw [rs3.len]; exact ej, q σ H5 _ ((e1.trans e2).trans e3) (R3.setO hs2 hσ (rs3.set rd j))⟩
end
/-! ### [e for x in xs for y in ys] -/
section
variable {β : Type}
def lc2L (own own1 : List Nat) (t : D → M β Unit) (c : M β Bool) (mi1 : M β (List D)) (t1 : D → M β Unit) (c1 : M β Bool) (e : M β RV) : List D → List D → M β (List D)
  | acc, [] => mret acc
  | acc, d :: ds => fun s => (mbind (noX (t d)) fun _ => mbind (noX c) fun k => mIte k (mbind (noX mi1) fun es => mbind (lcL own1 t1 c1 e acc es) fun acc' => lc2L own own1 t c mi1 t1 c1 e acc' ds) (lc2L own own1 t c mi1 t1 c1 e acc ds)) { s with sl := wipeS s.sl own }
def lc2M (own own1 : List Nat) (mi : M β (List D)) (t : D → M β Unit) (c : M β Bool) (mi1 : M β (List D)) (t1 : D → M β Unit) (c1 : M β Bool) (e : M β RV) : M β RV := mbind mi fun ds => fun s => mIte (wipeOk s.sl own) (mbind (noX (lc2L own own1 t c mi1 t1 c1 e [] ds)) fun acc => fun s' => .ok (.o acc) { s' with sl := restS s.sl s'.sl own }) mbad s
end
theorem wipe_sub (σ : L2.St) {own1 own : List Nat} (h : ∀ i ∈ own1, i ∈ own) : wipe (wipe σ own1) own = wipe σ own := wipe_but (tgt := own1) ⟨wipe_length _ _, fun j hj => wipe_out σ hj⟩ h
theorem wipeS_sub (sl : List Slot) {own1 own : List Nat} (h : ∀ i ∈ own1, i ∈ own) : wipeS (wipeS sl own1) own = wipeS sl own := by
  apply List.ext_getElem?
  intro j
  by_cases hj : j ∈ own
  · by_cases hl : j < sl.length
    · rw [wipeS_in _ (by rw [wipeS_length]; exact hl) hj, wipeS_in _ hl hj]
    · rw [List.getElem?_eq_none (by rw [wipeS_length, wipeS_length]; omega), List.getElem?_eq_none (by rw [wipeS_length]; omega)]
  · rw [wipeS_out _ hj, wipeS_out _ hj, wipeS_out _ fun z => hj (h j z)]
section
variable {β : Type} {K : PySem.W.Frag} {mg : Str → Option Value} {g : G β} {W : WX} {own own1 tgt tgt1 : List Nat} {mi mi1 : M β (List D)} {t t1 : D → M β Unit} {c c1 : M β Bool} {e : M β RV}
def tIF (K : PySem.W.Frag) (mg : Str → Option Value) (g : G β) (m : M β (List D)) : TI := fun σ H Q => ∃ F, tI K mg (g.wF F) W0 m σ H Q
theorem lc2_tE {σ : L2.St} {H : Hp} {Q : VK} (hs : ∀ i ∈ tgt, i ∈ own) (hs1 : ∀ i ∈ tgt1, i ∈ own1) (hso : ∀ i ∈ own1, i ∈ own) (h : tE K mg g W (lc2M own own1 mi t c mi1 t1 c1 e) σ H Q) :
    tLc2 (tI K mg g W mi) (tGF K g tgt t) (tTF K mg g c) (tIF K mg g mi1) (tGF K g tgt1 t1) (tTF K mg g c1) (tEF K mg g e) own own1 σ H Q := by
  obtain ⟨H0, s, R, h⟩ := h
  unfold lc2M at h
  rw [on_bind] at h
  refine ⟨H0, s, R, Out.on_imp h (fun ds s1 h J H1 H2 e1 R1 wk Dl hD => ?_) fun _ _ q => q⟩
  cases ok : wipeOk s1.sl own with
  | false => rw [ok] at h; exact h.elim
  | true =>
  rw [ok] at h
  have h : (mbind (noX (lc2L own own1 t c mi1 t1 c1 e [] ds)) (fun acc => fun s' => Out.ok (RV.o acc) { s' with sl := restS s1.sl s'.sl own }) s1).on _ _ := h
  rw [on_bind] at h
  have h := on_noX (e' := fun _ _ => False) h
  have nF : g.F Dl = none := R1.r0.frm.back hD
  have Rw := (R1.wipe own).hold (vs := []) hD
  -- what is wanted at the end
  obtain ⟨PQ, hPQ⟩ : ∃ PQ : List D → S β → Prop, PQ = fun acc s' => ∀ v H0' H', Ex H0 H0' → Rel K g H0' σ H' { s' with sl := restS s1.sl s'.sl own } → ResR K g H0' H' v (.o acc) → Apart σ (restS s1.sl s'.sl own) v (.o acc) → Q v H' := ⟨_, rfl⟩
  have h : (lc2L own own1 t c mi1 t1 c1 e [] ds s1).on PQ (fun _ _ => False) := by rw [hPQ]; exact h
  -- behind i items
  obtain ⟨At, hAt⟩ : ∃ At : Nat → Hp → Prop, At = fun i H => ∃ accD accV Ht s', Ex H1 Ht ∧ Rel K (g.wF (upd g.F Dl (.lst accV))) Ht (L2.wipe σ own) H { s' with sl := wipeS s'.sl own } ∧ Reps K g.bx Ht accV accD ∧
      (lc2L own own1 t c mi1 t1 c1 e accD (ds.drop i) s').on PQ (fun _ _ => False) := ⟨_, rfl⟩
  refine ⟨fun i k H => i + k = ds.length ∧ At i H, ⟨ds.length, by simp, by rw [hAt]; exact ⟨[], [], H1, s1, Ex.refl _, Rw, .nil, h⟩⟩, ?_⟩
  rintro i k H ⟨hk, hat⟩
  rw [hAt] at hat
  obtain ⟨accD, accV, Ht, s', et, Rt, ra, h⟩ := hat
  by_cases hlt : i < ds.length
  · have sub := Rt.r0.sub
    refine .inr ⟨wk.go H i ds[i] (et.trans sub) (by simp [hlt]), At (i + 1), fun H' h => ⟨k - 1, by omega, by omega, h⟩, fun x H' y => ?_⟩
    obtain ⟨H4, gr, rx⟩ := wk.yld Ht H i ds[i] x H' et sub (by simp [hlt]) y
    have R4 := Rt.grow gr.e0 gr.e gr.sub gr.new
    rw [show ds.drop i = ds[i] :: ds.drop (i + 1) from List.drop_eq_getElem_cons hlt] at h
    have h : (mbind (noX (t ds[i])) (fun _ => mbind (noX c) fun k => mIte k (mbind (noX mi1) fun es => mbind (lcL own1 t1 c1 e accD es) fun acc' => lc2L own own1 t c mi1 t1 c1 e acc' (ds.drop (i + 1))) (lc2L own own1 t c mi1 t1 c1 e accD (ds.drop (i + 1)))) { s' with sl := wipeS s'.sl own }).on _ _ := h
    rw [on_bind] at h
    refine ⟨_, H4, _, ds[i], R4, rx, Out.on_imp (on_noX h) (fun _ s5 h σ5 H5 H6 b5 e5 R5 => ?_) fun _ _ q => q⟩
    have ew : L2.wipe σ5 own = L2.wipe σ own := (wipe_but b5 hs).trans (wipe_wipe σ own)
    refine ⟨ew, ?_⟩
    rw [on_bind] at h
    refine ⟨_, H5, s5, R5, Out.on_imp (on_noX h) (fun kk s6 h H7 H8 e7 R7 => ?_) fun _ _ q => q⟩
    have e47 : Ex Ht H7 := (gr.e0.trans e5).trans e7
    cases kk with
    | false =>
      show (if _ = true then _ else _)
      rw [if_neg Bool.false_ne_true, hAt]
      have Rb := R7.wipe own
      rw [ew] at Rb
      exact ⟨accD, accV, H7, s6, et.trans e47, Rb, ra.mono e47, h⟩
    | true =>
      show (if _ = true then _ else _)
      rw [if_pos rfl]
      have h : (mbind (noX mi1) (fun es => mbind (lcL own1 t1 c1 e accD es) fun acc' => lc2L own own1 t c mi1 t1 c1 e acc' (ds.drop (i + 1))) s6).on _ _ := h
      rw [on_bind] at h
      refine ⟨_, H7, s6, R7, Out.on_imp (on_noX h) (fun es s7 h J1 H9 H10 e9 R9 wk1 => ?_) fun _ _ q => q⟩
      rw [on_bind] at h
      have e49 : Ex Ht H9 := e47.trans e9
      obtain ⟨PR, hPR⟩ : ∃ PR : List D → S β → Prop, PR = fun acc' s' => (lc2L own own1 t c mi1 t1 c1 e acc' (ds.drop (i + 1)) s').on PQ (fun _ _ => False) := ⟨_, rfl⟩
      have h : (lcL own1 t1 c1 e accD es s7).on PR (fun _ _ => False) := by rw [hPR]; exact h
      obtain ⟨At1, hAt1⟩ : ∃ At1 : Nat → Hp → Prop, At1 = fun j H => ∃ accD accV Hu s', Ex H9 Hu ∧ Rel K (g.wF (upd g.F Dl (.lst accV))) Hu (L2.wipe σ5 own1) H { s' with sl := wipeS s'.sl own1 } ∧ Reps K g.bx Hu accV accD ∧ (lcL own1 t1 c1 e accD (es.drop j) s').on PR (fun _ _ => False) := ⟨_, rfl⟩
      refine ⟨fun j k H => j + k = es.length ∧ At1 j H, ⟨es.length, by simp, by rw [hAt1]; exact ⟨accD, accV, H9, s7, Ex.refl _, R9.wipe own1, ra.mono e49, h⟩⟩, ?_⟩
      rintro j k1 Hx ⟨hk1, hat1⟩
      rw [hAt1] at hat1
      obtain ⟨accD, accV, Hu, s8, eu, Ru, rb, h⟩ := hat1
      by_cases hlt1 : j < es.length
      · have sub1 := Ru.r0.sub
        refine .inr ⟨wk1.go Hx j es[j] (eu.trans sub1) (by simp [hlt1]), At1 (j + 1), fun H' h => ⟨k1 - 1, by omega, by omega, h⟩, fun x1 Hy y1 => ?_⟩
        obtain ⟨Hz, gr1, rx1⟩ := wk1.yld Hu Hx j es[j] x1 Hy eu sub1 (by simp [hlt1]) y1
        have Rz := Ru.grow gr1.e0 gr1.e gr1.sub gr1.new
        rw [show es.drop j = es[j] :: es.drop (j + 1) from List.drop_eq_getElem_cons hlt1] at h
        have h : (mbind (noX (t1 es[j])) (fun _ => mbind (noX c1) fun k => mIte k (mbind (noX e) fun r => mIte (decide (accD.length < sizeLine)) (lcL own1 t1 c1 e (accD ++ [r.d]) (es.drop (j + 1))) mbad) (lcL own1 t1 c1 e accD (es.drop (j + 1)))) { s8 with sl := wipeS s8.sl own1 }).on _ _ := h
        rw [on_bind] at h
        refine ⟨_, Hz, _, es[j], Rz, rx1, Out.on_imp (on_noX h) (fun _ s9 h σ9 Ha Hb b9 e9' R9' => ?_) fun _ _ q => q⟩
        have ew1 : L2.wipe σ9 own1 = L2.wipe σ5 own1 := (wipe_but b9 hs1).trans (wipe_wipe σ5 own1)
        refine ⟨ew1, ?_⟩
        rw [on_bind] at h
        refine ⟨_, Ha, s9, R9', Out.on_imp (on_noX h) (fun kk sa h Hc Hd ec Rc => ?_) fun _ _ q => q⟩
        cases kk with
        | true =>
          show (if _ = true then _ else _)
          rw [if_pos rfl]
          have h : (mbind (noX e) (fun r => mIte (decide (accD.length < sizeLine)) (lcL own1 t1 c1 e (accD ++ [r.d]) (es.drop (j + 1))) mbad) sa).on _ _ := h
          rw [on_bind] at h
          refine ⟨_, Hc, sa, Rc, Out.on_imp (on_noX h) (fun r sb h z He Hf ee Re rz => ?_) fun _ _ q => q⟩
          cases hz : decide (accD.length < sizeLine) with
          | false => rw [hz] at h; exact h.elim
          | true =>
            rw [hz] at h
            have eue : Ex Hu He := ((gr1.e0.trans e9').trans ec).trans ee
            refine ⟨accV, Re.r0.frm Dl _ (by show upd g.F Dl (.lst accV) Dl = _; rw [upd_same]), by rw [rb.len]; exact of_decide_eq_true hz, ?_⟩
            rw [hAt1]
            have Rb := (Re.wipe own1).bump (accV ++ [z])
            rw [ew1] at Rb
            exact ⟨accD ++ [r.d], accV ++ [z], He, sb, eu.trans eue, Rb, (rb.mono eue).append (.one rz), h⟩
        | false =>
          show (if _ = true then _ else _)
          rw [if_neg Bool.false_ne_true, hAt1]
          have euc : Ex Hu Hc := (gr1.e0.trans e9').trans ec
          have Rb := Rc.wipe own1
          rw [ew1] at Rb
          exact ⟨accD, accV, Hc, sa, eu.trans euc, Rb, rb.mono euc, h⟩
      · have ej : j = es.length := by omega
        subst ej
        rw [List.drop_length] at h
        have h : PR accD s8 := h
        rw [hPR] at h
        refine .inl ⟨wk1.stop Hx (eu.trans Ru.r0.sub), ?_⟩
        rw [hAt]
        have Rb := Ru.wipe own
        rw [wipe_sub σ5 hso, ew] at Rb
        have Rb : Rel K (g.wF (upd g.F Dl (.lst accV))) Hu (L2.wipe σ own) Hx { s8 with sl := wipeS (wipeS s8.sl own1) own } := Rb
        rw [wipeS_sub _ hso] at Rb
        exact ⟨accD, accV, Hu, s8, (et.trans e49).trans eu, Rb, rb, h⟩
  · have ei : i = ds.length := by omega
    subst ei
    rw [List.drop_length] at h
    have h : PQ accD s' := h
    rw [hPQ] at h
    obtain ⟨Rf, hDl, n0, nb, no⟩ := Rt.free nF
    have Rr := Rf.rest R1 et ok
    refine .inl ⟨wk.stop H (et.trans Rt.r0.sub), h (.ref Dl) Ht H (e1.trans et) Rr ⟨Dl, accV, rfl, hDl, ra, n0, nF, nb⟩ fun j es p ep h1 h2 => ?_⟩
    cases ep
    have z := Rr.slot j _ _ h1 h2
    obtain ⟨q, ws, eq, _, _, _, _, _⟩ := z
    cases eq
    by_cases hj : j ∈ own
    · have hl : j < s'.sl.length := by
        have := (List.getElem?_eq_some_iff.mp h1).1
        rwa [restS_length] at this
      rw [restS_in s1.sl s'.sl hl hj] at h1
      have h0 : notO s1.sl[j]? = true := List.all_eq_true.mp ok j hj
      cases q : s1.sl[j]? with
      | none => rw [q] at h0; cases h0
      | some k0 =>
        have : s1.sl.getD j .no = k0 := by rw [List.getD_eq_getElem?_getD, q]; rfl
        rw [this] at h1
        cases h1
        rw [q] at h0; cases h0
    · rw [restS_out s1.sl s'.sl hj] at h1
      exact no ⟨j, es, by show (wipeS s'.sl own)[j]? = _; rw [wipeS_out s'.sl hj]; exact h1, by rw [wipe_out σ hj]; exact h2⟩
end
section
variable {β : Type} {X : Cx} {g : G β} {W : WX} {own : List (Str × Nat)} {own1 tgt tgt1 : List Nat} {elt tg iter tg1 iter1 : Expr} {ifs ifs1 : List Expr} {scope : Scope} {pos : Pos} {mi mi1 : M β (List D)} {t t1 : D → M β Unit} {c c1 : M β Bool} {e : M β RV}
abbrev BlkI (X : Cx) (g : G β) (scope : Scope) (tg iter : Expr) (m : M β (List D)) : Prop := ∀ (F : Hp) (s : Shared) (H : Hp) (C : Addr) (cl : List (Str × Addr)) (fp : List Addr), PIM (X.blk s H scope (compEnvC scope cl C X.env) fp) (g.wF F) W0 tg iter m
theorem pi_F {X' : Cx} {tg iter : Expr} {m : M β (List D)} (h : ∀ F, PI X' tg iter (tI X'.K X'.mg (g.wF F) W0 m)) : PI X' tg iter (tIF X'.K X'.mg g m) := ⟨fun pins s σ H Q I ⟨F, q⟩ => (h F).run pins s σ H Q I q⟩
theorem e_lc2 (own : List (Str × Nat)) (own1 : List Nat) (hN : X.N.Nodup) (hi : PIM X g W tg iter mi) (hg : BlkG X g scope tgt tg t) (ht : BlkT X g scope ifs c) (hi1 : BlkI X g scope tg1 iter1 mi1) (hg1 : BlkG X g scope tgt1 tg1 t1) (ht1 : BlkT X g scope ifs1 c1) (he : BlkE X g scope elt e) (hc : X.calm = true := by rfl) (ok : BlkOk X.N X.env.scope scope own := by exact blkOk_by (by decide +kernel)) (hs : ∀ i ∈ tgt, i ∈ own.map (·.2) := by decide) (hs1 : ∀ i ∈ tgt1, i ∈ own1 := by decide) (hso : ∀ i ∈ own1, i ∈ own.map (·.2) := by decide)
    (hf : ∀ x, foldedSetIterable iter X.env x = pure x := by intro _; rfl) (hf1 : ∀ env x, foldedSetIterable iter1 env x = pure x := by intro _ _; rfl) :
    PEM X g W (.ListComp elt [⟨tg, iter, ifs, 0⟩, ⟨tg1, iter1, ifs1, 0⟩] scope pos) (lc2M (own.map (·.2)) own1 mi t c mi1 t1 c1 e) :=
  PE.imp (pe_lc2 hc hN hi ok hso (fun s H C cl fp => pg_F fun F => hg F s H C cl fp) (fun s H C cl fp => pts_F fun F => ht F s H C cl fp) (fun s H C cl fp => pi_F fun F => hi1 F s H C cl fp) (fun s H C cl fp => pg_F fun F => hg1 F s H C cl fp) (fun s H C cl fp => pts_F fun F => ht1 F s H C cl fp) (fun s H C cl fp => pe_F fun F => (he F s H C cl fp).d) hf hf1) fun σ H Q h => lc2_tE hs hs1 hso h
end
end DL

set_option Elab.async false
set_option linter.all false
set_option maxRecDepth 100000
namespace DL
open PySem PySem.Spec L2
/-! ### the law's box -/
structure Bx where
  cells : List Int
  at_ : Int
  big : Int
  mix : Int
  cnt : Int
  left : Int
def Bx.vals (q : Addr) (b : Bx) : List V := [.ref q, .int b.at_, .int b.big, .int b.mix, .int b.cnt, .int b.left]
def Bx.items (b : Bx) : List D := [.lst (b.cells.map D.int), .int b.at_, .int b.big, .int b.mix, .int b.cnt, .int b.left]
def Bx.put (b : Bx) : Nat → Int → Bx
  | 1, i => { b with at_ := i }
  | 2, i => { b with big := i }
  | 3, i => { b with mix := i }
  | 4, i => { b with cnt := i }
  | 5, i => { b with left := i }
  | _, _ => b
def bxItp (H0 : Hp) (b : Bx) (o : HO) : Prop := ∃ q, o = .lst (b.vals q) ∧ H0 q = some (.lst (b.cells.map V.int))
theorem bxMono {H H' : Hp} {b : Bx} {o : HO} (e : Ex H H') (h : bxItp H b o) : bxItp H' b o := let ⟨q, h1, h2⟩ := h; ⟨q, h1, e _ _ h2⟩
def tabsOf [RowT] (K : PySem.W.Frag) : List (Addr × Str) := RowT.tf.map fun p => ((He.cT K p).2, (p.1 ++ ".<locals>.") ++ "<lambda>")
variable [RowT]
instance : GOk Bx := ⟨fun K i T => i = bxItp ∧ T = tabsOf K⟩
theorem reps_ints {K : PySem.W.Frag} {bx : Addr} {H : Hp} (ns : List Int) : Reps K bx H (ns.map V.int) (ns.map D.int) := ⟨by simp, fun i v d h h' => by
  rw [List.getElem?_map, Option.map_eq_some_iff] at h h'
  obtain ⟨n, hn, rfl⟩ := h
  obtain ⟨m, hm, rfl⟩ := h'
  rw [hn] at hm; cases hm
  exact .int⟩
theorem bx_reps {K : PySem.W.Frag} {bx : Addr} {H : Hp} {b : Bx} {q : Addr} (h : H q = some (.lst (b.cells.map V.int))) : Reps K bx H (b.vals q) b.items :=
  .cons (.lstR h (reps_ints _)) (.cons .int (.cons .int (.cons .int (.cons .int (.one .int)))))
section
variable {X : Cx} {g : G Bx} {W : WX} {a b c e : Expr} {m : M Bx RV} {pos : Pos}
def bxRd (i k : Nat) : M Bx RV := fun s => match s.sl[i]?, s.bx.items[k]? with
  | some (.v .box), some d => .ok (.v d) s
  | _, _ => .bad
theorem Rel.box {K : PySem.W.Frag} {H0 H : Hp} {σ : L2.St} {s : S Bx} (R : Rel K g H0 σ H s) (hG : GOk.ok K g.itp g.T) {i : Nat} (h : s.sl[i]? = some (.v .box)) : σ[i]? = some (some (.ref g.bx)) ∧ ∃ q, H g.bx = some (.lst (s.bx.vals q)) ∧ H0 q = some (.lst (s.bx.cells.map V.int)) := by
  have hi : i < σ.length := by rw [← R.len]; exact (List.getElem?_eq_some_iff.mp h).1
  obtain ⟨y, e1, r⟩ := R.slot i _ σ[i] h (by simp [hi])
  cases r
  obtain ⟨o, ho, hit⟩ := R.r0.it
  rw [show g.itp = bxItp from hG.1] at hit
  obtain ⟨q, rfl, hq⟩ := hit
  exact ⟨by simp [hi, e1], q, ho, hq⟩
theorem e_bx (i k : Nat) {x : Str} {p p' : Pos} {j} (hG : GOk.ok X.K g.itp g.T) (hN : X.N[i]? = some x := by rfl) (hv : Vis X.env.scope x := by first | exact Or.inl rfl | exact Or.inr (Or.inl rfl) | exact Or.inr (Or.inr rfl)) (hd : (x == ("__debug__" : Str)) = false := by decide)
    (hcd : (x == ("__classdict__" : Str)) = false := by decide) : PEM X g W (.Subscript (.Name x p) (.Constant (.int (k : Nat)) j p') pos) (bxRd i k) := PE.imp (pe_ix ix_list (pe_var hN hv hd hcd) pe_int fun _ _ => rfl) fun σ H Q ⟨H0, s, R, q⟩ => by
  unfold bxRd at q
  cases h1 : s.sl[i]? with
  | none => rw [h1] at q; exact q.elim
  | some sl =>
    cases h2 : s.bx.items[k]? with
    | none => rw [h1, h2] at q; revert q; cases sl with
      | v d => cases d <;> exact fun h => h.elim
      | _ => exact fun h => h.elim
    | some d =>
      rw [h1, h2] at q
      cases sl with
      | no => exact q.elim
      | o _ => exact q.elim
      | v d' =>
        cases d' with
        | box =>
          obtain ⟨hσ, qa, hH, hq⟩ := R.box hG h1
          have rs := bx_reps (K := X.K) (bx := g.bx) (b := s.bx) hq
          obtain ⟨v, hv', rv⟩ := rs.at h2
          exact ⟨.ref g.bx, hσ, ⟨g.bx, _, (k : Int), v, rfl, rfl, .of hH, atI_nat hv', q v H0 H (Ex.refl _) R rv trivial⟩⟩
        | _ => exact q.elim
def bxSt (i k : Nat) (m : M Bx RV) : M Bx Fl := mbind m fun r => fun s => match s.sl[i]?, asI r.d, decide (1 ≤ k ∧ k ≤ 5) with
  | some (.v .box), some j, true => .ok .nx { s with bx := s.bx.put k j }
  | _, _, _ => .bad
theorem put_vals {b : Bx} {k : Nat} {q : Addr} {i : Int} (h : 1 ≤ k ∧ k ≤ 5) : (b.vals q).set k (.int i) = (b.put k i).vals q ∧ (b.put k i).cells = b.cells := by
  obtain ⟨h1, h2⟩ := h
  match k, h1, h2 with
  | 1, _, _ => exact ⟨rfl, rfl⟩
  | 2, _, _ => exact ⟨rfl, rfl⟩
  | 3, _, _ => exact ⟨rfl, rfl⟩
  | 4, _, _ => exact ⟨rfl, rfl⟩
  | 5, _, _ => exact ⟨rfl, rfl⟩
theorem s_bx (i k : Nat) {x : Str} {p pos' p' : Pos} {j} (hG : GOk.ok X.K g.itp g.T) (he : PEM X g W e m) (hN : X.N[i]? = some x := by rfl) (hv : Vis X.env.scope x := by first | exact Or.inl rfl | exact Or.inr (Or.inl rfl) | exact Or.inr (Or.inr rfl)) (hd : (x == ("__debug__" : Str)) = false := by decide)
    (hcd : (x == ("__classdict__" : Str)) = false := by decide)
    (ha : ∀ v, assign (.Subscript (.Name x p) (.Constant (.int (k : Nat)) j p') pos') X.env v = (do
      let ov ← holding [v] (eval (.Name x p) X.env)
      let iv ← holding [v, ov] (eval (.Constant (.int (k : Nat)) j p') X.env)
      standAt pos'
      holding [v, ov, iv] (setItem ov iv v)
      release [v, ov, iv] []) := by intros; rfl)
    (hs : swapsWithSole [.Subscript (.Name x p) (.Constant (.int (k : Nat)) j p') pos'] e pos.line X.env = pure false := by rfl) (hw : swappedStores [.Subscript (.Name x p) (.Constant (.int (k : Nat)) j p') pos'] e X.env = pure none := by rfl)
    (h1 : (assignEach [.Subscript (.Name x p) (.Constant (.int (k : Nat)) j p') pos'] X.env).map (·.2) = [assign (.Subscript (.Name x p) (.Constant (.int (k : Nat)) j p') pos') X.env] := by rfl) : PSM X g W (.Assign [.Subscript (.Name x p) (.Constant (.int (k : Nat)) j p') pos'] e pos) (bxSt i k m) := PS.imp (ps_asg he.d (pg_sub (pe_var hN hv hd hcd) pe_int set_list ha) hs hw h1) fun D σ H ⟨H0, s, R, q⟩ => by
  unfold bxSt at q
  rw [on_bind] at q
  refine ⟨H0, s, R, Out.on_imp q (fun r s1 q v H1 H2 e1 R1 rr => ?_) fun _ _ q => q.e⟩
  revert q
  cases h1 : s1.sl[i]? with
  | none => exact fun q => q.elim
  | some sl =>
    cases sl with
    | no => exact fun q => q.elim
    | o _ => exact fun q => q.elim
    | v d' =>
      cases d' with
      | box =>
        cases h2 : asI r.d with
        | none => exact fun q => q.elim
        | some n =>
          cases h3 : decide (1 ≤ k ∧ k ≤ 5) with
          | false => exact fun q => q.elim
          | true =>
            intro q
            have hk := of_decide_eq_true h3
            obtain ⟨hσ, qa, hH, hq⟩ := R1.box hG h1
            rw [asI_eq h2] at rr
            cases rr
            obtain ⟨pv, pc⟩ := put_vals (b := s1.bx) (q := qa) (i := n) hk
            have nb : ∀ a o, a ≠ g.bx → H2 a = some o → upd H2 g.bx (.lst ((s1.bx.vals qa).set k (.int n))) a = some o := fun a o h e => by rw [upd_ne h]; exact e
            have R2 : Rel X.K g H1 σ (upd H2 g.bx (.lst ((s1.bx.vals qa).set k (.int n)))) { s1 with bx := s1.bx.put k n } := R1.step (Ex.refl _) (fun a o h _ e => nb a o h e) (fun a o e => by
                by_cases ha : a = g.bx
                · subst ha; rw [R1.r0.bxn] at e; cases e
                · exact nb a o ha (R1.r0.sub a o e)) (fun a o e => .inl e) ⟨_, upd_same, by
                rw [show g.itp = bxItp from hG.1]
                exact ⟨qa, by rw [pv], by rw [pc]; exact hq⟩⟩ (R1.r0.tb.keep (fun _ _ _ h => h) (fun _ _ _ h => h) fun a o h _ e => nb a o h e)
            exact ⟨.ref g.bx, hσ, ⟨g.bx, s1.bx.vals qa, (k : Int), k, rfl, rfl, hH, by
              have hkl : k < (s1.bx.vals qa).length := by show k < 6; omega
              unfold ixN
              rw [if_pos (by omega), if_pos (by omega)]
              simp, q σ H1 _ e1 R2⟩⟩
      | _ => exact fun q => q.elim
end
/-! ### a def that calls itself: nothing is promised at depth 0 -/
def bad {γ : Type} : DefM γ := fun _ _ => .bad
theorem dx_bad {γ : Type} [GOk γ] {P : Program} {w : World} {K : PySem.W.Frag} {mg : Str → Option Value} {base : Heap} {x : Str} {st : Stmt} {ps : List Str} (k : Nat) (F : Fd K mg x st)
    (bn : ∀ (kV doc pm : Value) (an : Option Addr) (cdv ct : Value) (us : List Value), us.length = ps.length → bindArgs (PySem.W.fnOf x x (defArgs st) (defBody st) (defScope st) .none kV doc pm an cdv ct) ⟨us, []⟩ = pure (ps.zip us)) :
    Dx P w K mg base k x st ps (bad : DefM γ) := by
  obtain ⟨f, fd, F, gl⟩ := F
  exact ⟨f, fd, ⟨F, gl, ⟨fun vs H Q E h => spOf_len vs H Q E h, fun A outer s H args us vs Q E hr e0 hb r h => by
    obtain ⟨_, _, _, _, _, _, _, _, h⟩ := h
    exact h.elim⟩⟩, F.bindsN bn⟩
end DL

set_option Elab.async false
set_option linter.all false
set_option maxRecDepth 100000
namespace DL
open PySem PySem.Spec L2
/-! ### generator defs by their names -/
theorem gx_mk {P : Program} {w : World} {K : PySem.W.Frag} {mg : Str → Option Value} {base : Heap} {x : Str} {st : Stmt} {ps : List Str} (N : List Str) {k : Nat} {mb : GM Unit} (F : Fd K mg x st) (S : GScope N ps (defScope st))
    (bn : ∀ (kV doc pm : Value) (an : Option Addr) (cdv ct : Value) (us : List Value), us.length = ps.length → bindArgs (PySem.W.fnOf x x (defArgs st) (defBody st) (defScope st) .none kV doc pm an cdv ct) ⟨us, []⟩ = pure (ps.zip us))
    (hb : ∀ (f : Addr) (cdv : Value) (A : Around) (outer : List Env) (s : Shared) (H : Hp) (E : XK) (g : G Unit) (pn : List (Addr × Obj)), Room k (A.deeper (PyProof.Rows.envOfC x (defScope st) s.heap.objs.size f cdv)) → GSSM (gcxOf P w K mg base N x (defScope st) f cdv A outer s H E pn) g (fun c d _ H => E c d H) (defBody st) mb) :
    Gx P w K mg base (k + 1) x st ps [] (runGen N.length mb) := by
  obtain ⟨f, fd, F, gl⟩ := F
  exact ⟨f, fd, [], [], [], dg_mk F gl S (fun cdv A outer s H E g pn hr => hb f cdv A outer s H E g pn hr), .nil, F.bindsN bn, fun bx H => .nil⟩
/-- one keyword-only parameter that has a default -/
def Fk (K : PySem.W.Frag) (mg : Str → Option Value) (x : Str) (st : Stmt) (y : Str) (d : D) : Prop := ∃ f fd v, FunD K x x (defArgs st) (defBody st) (defScope st) [] [(y, v)] f fd ∧ mg x = some (.ref f) ∧ ∀ bx H, Rep K bx H v d
theorem gx_mk1 {P : Program} {w : World} {K : PySem.W.Frag} {mg : Str → Option Value} {base : Heap} {x y : Str} {d : D} {st : Stmt} {ps : List Str} (N : List Str) {k : Nat} (n : Nat) {mb : GM Unit} (F : Fk K mg x st y d) (S : GScope N ps (defScope st))
    (bn : ∀ (D : Addr) (doc pm : Value) (an : Option Addr) (cdv ct : Value) (us ks : List Value), us.length = n → ks.length = 1 → KwChain D ([y].zip ks) (bindArgs (PySem.W.fnOf x x (defArgs st) (defBody st) (defScope st) .none (.ref D) doc pm an cdv ct) ⟨us, []⟩) (ps.zip (us ++ ks)))
    (hn : n + 1 = ps.length)
    (hb : ∀ (f : Addr) (cdv : Value) (A : Around) (outer : List Env) (s : Shared) (H : Hp) (E : XK) (g : G Unit) (pn : List (Addr × Obj)), Room k (A.deeper (PyProof.Rows.envOfC x (defScope st) s.heap.objs.size f cdv)) → GSSM (gcxOf P w K mg base N x (defScope st) f cdv A outer s H E pn) g (fun c d _ H => E c d H) (defBody st) mb) :
    Gx P w K mg base (k + 1) x st ps [d] (runGen N.length mb) := by
  obtain ⟨f, fd, v, F, gl, rv⟩ := F
  obtain ⟨ds, hv, hb'⟩ := F.binds0 (ps := ps) n (by simp) (by simpa using hn) fun D doc pm an cdv ct us ks h1 h2 => bn D doc pm an cdv ct us ks h1 (by simpa using h2)
  exact ⟨f, fd, [(y, v)], [v], ds, dg_mk F gl S (fun cdv A outer s H E g pn hr => hb f cdv A outer s H E g pn hr), hv, hb', fun bx H => .one (rv bx H)⟩
end DL

set_option Elab.async false
set_option linter.all false
set_option maxRecDepth 100000
namespace DL
open PySem PySem.Spec L2
variable [RowT]
/-! ### the law's box is made -/
def mixStep (m b : Int) : Int := (m * 52361 + b % 2147483563 + 1009) % 2147483549
def mixOf (ns : List Int) : Int := ns.foldl mixStep 177890
def bx0 (ns : List Int) : Bx := ⟨ns, 0, 0, mixOf ns, 0, 0⟩
def spBox (K : PySem.W.Frag) : Sp := fun vs H Q _ => ∃ (a : Addr) (ns : List Int), vs = [.ref a] ∧ SqL K H a (ns.map V.int) ∧ ns.length ≤ 63 ∧ ∀ p q H', Ex H H' → H' p = some (.lst ((bx0 ns).vals q)) → H' q = some (.lst (ns.map V.int)) → Q (.ref p) H'
def tCut (K : PySem.W.Frag) : TE := tSl (rSlL K) (tVar 0) tNoPart (tPart (tC (.int 63)))
abbrev rInt1 : List V → Hp → VK → Prop := fun xs H Q => (∃ i, xs = [.int i] ∧ Q (.int i) H) ∨ ∃ k, xs = [.bl k] ∧ Q (.int (if k then 1 else 0)) H
abbrev rModI : R2 := rI (fun _ j => 0 < j) fun i j => .int (i % j)
abbrev rAddI : R2 := rI0 fun i j => .int (i + j)
abbrev rMulI : R2 := rI CMulW fun i j => .int (i * j)
abbrev rListOf (K : PySem.W.Frag) : List V → Hp → VK → Prop := fun xs H Q => ∃ p ys, xs = [.ref p] ∧ (SqL K H p ys ∨ SqT K H p ys) ∧ ∀ l, H l = none → Q (.ref l) (upd H l (.lst ys))
def tMix : TE := tOp rModI (tCB rInt1 (tCons (tOp rAddI (tOp rAddI (tOp rMulI (tVar 1) (tC (.int 52361))) (tOp rModI (tCB rInt1 (tCons (tVar 2) tNil)) (tC (.int 2147483563)))) (tC (.int 1009))) tNil)) (tC (.int 2147483549))
def tBox (K : PySem.W.Frag) : TS := tSeq (tAsg (tC (.int 177890)) (gName 1)) (tSeq (tFor (iList K (tCut K)) (gName 2) (tAsg tMix (gName 1)))
  (tRet (tLst (tCons (tCB (rListOf K) (tCons (tCut K) tNil)) (tCons (tC (.int 0)) (tCons (tC (.int 0)) (tCons (tVar 1) (tCons (tC (.int 0)) (tCons (tC (.int 0)) tNil)))))))))
theorem mixStep_range (m b : Int) : 0 ≤ mixStep m b ∧ mixStep m b < 2147483549 := by unfold mixStep; omega
theorem mixOf_range (ns : List Int) : 0 ≤ mixOf ns ∧ mixOf ns < 2147483549 := by
  unfold mixOf
  rcases List.eq_nil_or_concat ns with h | ⟨l, b, h⟩
  · subst h; decide
  · subst h
    rw [List.concat_eq_append, List.foldl_append]
    exact mixStep_range _ _
theorem mulW_small {i j : Int} (hi : 0 ≤ i ∧ i < 2 ^ 40) (hj : 0 ≤ j ∧ j < 2 ^ 40) : CMulW i j := by
  have : i.natAbs < 2 ^ 40 := by omega
  have h2 : j.natAbs < 2 ^ 40 := by omega
  exact wide_mul this h2 (by decide) (by decide) (by decide)
theorem cut_all {xs : List V} (h : xs.length ≤ 63) : cutV xs none (some 63) = xs := by
  unfold cutV
  rw [HT.sIx_none, show ((63 : Int)) = ((63 : Nat) : Int) from rfl, HT.sIx_nat]
  rw [Nat.min_eq_right h]
  simp
theorem cut_run {K : PySem.W.Frag} {σ : L2.St} {H : Hp} {Q : VK} {a : Addr} {vs : List V} (h0 : σ[0]? = some (some (.ref a))) (hs : SqL K H a vs) (hl : vs.length ≤ 63) (h : ∀ p, H p = none → Q (.ref p) (upd H p (.lst vs))) : tCut K σ H Q := by
  refine ⟨_, h0, ⟨63, rfl, a, vs, rfl, hs, fun p hp => ?_⟩⟩
  rw [cut_all hl]
  exact h p hp
theorem box_run {K : PySem.W.Frag} {vs : List V} {H : Hp} {Q : VK} {E : XK} (h : spBox K vs H Q E) : tBox K { nx := fun _ H' => Q .non H', rt := Q } (L2.start ["script", "mixed", "bit"] vs) H := by
  obtain ⟨a, ns, rfl, hs, hl, k⟩ := h
  have hlv : (ns.map V.int).length ≤ 63 := by simpa using hl
  refine cut_run (a := a) rfl hs hlv fun p hp => ?_
  have e1 : Ex H (upd H p (.lst (ns.map V.int))) := Ex.new hp
  refine ⟨p, rfl, ⟨_, .of upd_same⟩, ?_⟩
  refine for_list (xs := ns.map V.int) (fun i σ H' => H' = upd H p (.lst (ns.map V.int)) ∧ ∃ b, σ = [some (.ref a), some (.int (mixOf (ns.take i))), b]) ⟨rfl, none, rfl⟩ (fun i σ H' hi ⟨eH, _⟩ => by subst eH; exact .of upd_same) (fun i x σ H' hx ⟨eH, b, eσ⟩ => ?_) (fun σ H' ⟨eH, b, eσ⟩ => ?_)
  · subst eH eσ
    rw [List.getElem?_map, Option.map_eq_some_iff] at hx
    obtain ⟨n, hn, rfl⟩ := hx
    have hm := mixOf_range (ns.take i)
    have et : ns.take (i + 1) = ns.take i ++ [n] := by rw [List.take_add_one, hn]; rfl
    have go : mixOf (ns.take (i + 1)) = (mixOf (ns.take i) * 52361 + n % 2147483563 + 1009) % 2147483549 := by
      unfold mixOf
      rw [et, List.foldl_append]
      rfl
    exact ⟨_, rfl, _, _, rfl, rfl, mulW_small ⟨hm.1, by omega⟩ (by decide), _, rfl, .inl ⟨_, rfl, _, _, rfl, rfl, (by show (0 : Int) < 2147483563; decide), _, _, rfl, rfl, _, _, rfl, rfl, .inl ⟨_, rfl, _, _, rfl, rfl, (by show (0 : Int) < 2147483549; decide), rfl, some (.int n), by rw [go]; rfl⟩⟩⟩
  · subst eH eσ
    refine cut_run (a := a) rfl (e1.l hs) hlv fun q hq => ?_
    have e2 := Ex.new (o := .lst (ns.map V.int)) hq
    have hqp : q ≠ p := fun z => by subst z; rw [upd_same] at hq; cases hq
    refine ⟨q, _, rfl, .inl (.of upd_same), fun l hl' => ?_⟩
    refine ⟨_, rfl, ?_⟩
    refine ⟨by show 6 ≤ sizeLine; rw [sizeLine_eq]; omega, fun r hr => ?_⟩
    have hl2 : l ≠ r := fun z => by subst z; rw [upd_same] at hr; cases hr
    have em : (ns.map V.int).length = ns.length := by simp
    refine k r l _ (((e1.trans e2).trans (Ex.new hl')).trans (Ex.new hr)) ?_ ?_
    · rw [upd_same, em, List.take_length]
      rfl
    · rw [upd_ne hl2, upd_same]
/-! ### the law begins -/
def tLw (K : PySem.W.Frag) (mg : Str → Option Value) (W : WX) (m : M Bx Fl) : TS := fun D' σ H => ∃ g : G Bx, GOk.ok K g.itp g.T ∧ tS K mg g W m D' σ H
theorem ss_lw {X : Cx} {W : WX} {st : List Stmt} {m : M Bx Fl} (h : ∀ g : G Bx, GOk.ok X.K g.itp g.T → PSSM X g W st m) : PSs X st (tLw X.K X.mg W m) := ⟨fun pins s σ H D I ⟨g, hg, q⟩ => (h g hg).run pins s σ H D I q⟩
def spLaw (K : PySem.W.Frag) : Sp := fun vs H Q _ => ∃ (a : Addr) (ns : List Int), vs = [.ref a] ∧ SqL K H a (ns.map V.int) ∧ ns.length ≤ 63 ∧ (∀ p ∈ tabsOf K, H p.1 = some (.tbl #[])) ∧ ∀ H', Q (.bl true) H'
/-- the law's result, by the mirror of all behind its first statement (n slots) -/
def lawR (n : Nat) (m : M Bx Fl) (ns : List Int) : Prop := match m ⟨.no :: .v .box :: List.replicate (n - 2) .no, bx0 ns⟩ with
  | .ok (.rt (.v (.bl true))) _ => True
  | _ => False
theorem law_run {K : PySem.W.Frag} {mg : Str → Option Value} {vs : List V} {H : Hp} {Q : VK} {E : XK} {W : WX} {E' : L2.St → XK} {N : List Str} {m : M Bx Fl} (hN : 2 ≤ N.length) (hm : ∀ ns : List Int, ns.length ≤ 63 → lawR N.length m ns) (h : spLaw K vs H Q E) :
    tSeq (tAsg (tCallSD (spBox K) [] E' (tCons (tVar 0) tNil)) (gName 1)) (tLw K mg W m) { nx := fun _ H' => Q .non H', rt := Q } (L2.start N vs) H := by
  obtain ⟨a, ns, rfl, hs, hl, ht, k⟩ := h
  refine ⟨_, rfl, a, ns, rfl, hs, hl, fun p q H' eH hp hq => ?_⟩
  have hpq : p ≠ q := fun z => by
    subst z
    rw [hp] at hq
    cases ns with
    | nil => cases hq
    | cons n ns => simp [Bx.vals] at hq
  have hm := hm ns hl
  unfold lawR at hm
  have ex : Ex (upd (fun _ => none) q (.lst (ns.map V.int))) H' := fun b o e => by
    by_cases hb : b = q
    · subst hb; rw [upd_same] at e; cases e; exact hq
    · rw [upd_ne hb] at e; cases e
  have hst : (L2.start N [V.ref a]).set 1 (some (.ref p)) = some (.ref a) :: some (.ref p) :: List.replicate (N.length - 2) none := by
    unfold L2.start
    obtain ⟨n, hn⟩ : ∃ n, N.length = n + 2 := ⟨N.length - 2, by omega⟩
    rw [hn]
    rfl
  show tLw K mg W m _ ((L2.start N [V.ref a]).set 1 (some (.ref p))) H'
  rw [hst]
  refine ⟨⟨p, bxItp, fun e h => bxMono e h, fun _ => none, tabsOf K⟩, ⟨rfl, rfl⟩, upd (fun _ => none) q (.lst (ns.map V.int)), ⟨.no :: .v .box :: List.replicate (N.length - 2) .no, bx0 ns⟩, ⟨⟨ex, fun b o e => (nomatch (show (none : Option HO) = some o from e)), fun b o e => (nomatch (show (none : Option HO) = some o from e)), ?_, rfl, ⟨_, hp, q, rfl, upd_same⟩, fun z hz => ?_⟩, ?_, ?_, ?_⟩, ?_⟩
  · show upd _ q _ p = none
    rw [upd_ne hpq]
  · have e := eH _ _ (ht z hz)
    have n1 : z.1 ≠ p := fun y => by rw [y, hp] at e; cases e
    have n2 : z.1 ≠ q := fun y => by rw [y, hq] at e; cases e
    exact ⟨n1, rfl, by show upd _ q _ z.1 = none; rw [upd_ne n2], #[], e, True.intro, fun pos cv h => by
      have z : codeAmong pos [] = some cv := h
      simp [codeAmong] at z⟩
  · simp
  · intro i sk x h1 h2
    match i, h1, h2 with
    | 0, h1, h2 => cases h1; trivial
    | 1, h1, h2 => cases h1; cases h2; exact ⟨_, rfl, .box⟩
    | i + 2, h1, h2 =>
      have : sk = .no := (List.mem_replicate.mp (List.mem_of_getElem? (show (List.replicate (N.length - 2) Slot.no)[i]? = some sk from h1))).2
      subst this
      trivial
  · intro i j ds es b h1
    exfalso
    match i, h1 with
    | 0, h1 => cases h1
    | 1, h1 => cases h1
    | i + 2, h1 =>
      have := (List.mem_replicate.mp (List.mem_of_getElem? (show (List.replicate (N.length - 2) Slot.no)[i]? = some (.o ds) from h1))).2
      cases this
  · revert hm
    cases m ⟨.no :: .v .box :: List.replicate (N.length - 2) .no, bx0 ns⟩ with
    | bad => exact fun h => h.elim
    | exc x s => exact fun h => h.elim
    | ok f s =>
      cases f with
      | rt r =>
        cases r with
        | v d =>
          cases d with
          | bl b =>
            cases b with
            | true => exact fun _ v σ' H0' H' e R rr => by cases (show Rep K _ H0' v (.bl true) from rr); exact k H'
            | false => exact fun h => h.elim
          | _ => exact fun h => h.elim
        | o ds => exact fun h => h.elim
      | _ => exact fun h => h.elim
/-- the def that makes the box, as the law knows it -/
def Dbox (P : Program) (w : World) (K : PySem.W.Frag) (mg : Str → Option Value) (base : Heap) (k : Nat) (x : Str) (st : Stmt) : Prop :=
  ∃ f fd, FunD K x x (defArgs st) (defBody st) (defScope st) [] [] f fd ∧ mg x = some (.ref f) ∧ FnOk P w K mg base (L2N.CX P w) k f fd ["script"] (spBox K) ∧ Binds K fd ["script"] []
theorem ps_box {X : Cx} {W : WX} {k k' i j : Nat} {x y z : Str} {st : Stmt} {p1 p2 p3 p4 pos : Pos} (F : Dbox X.prog X.w X.K X.mg X.base k x st) (hr : Room k' X.A) (tk : L2N.Takes X W) (hN : X.N.Nodup) (hk : k ≤ k' := by decide) (hg : Gl X x := by rfl) (hy : X.N[i]? = some y := by rfl) (hyl : Loc X.env.scope y := by first | exact Or.inl rfl | exact Or.inr rfl)
    (hz : X.N[j]? = some z := by rfl) (hzl : Vis X.env.scope z := by exact Or.inl rfl) (hdz : (z == ("__debug__" : Str)) = false := by decide) (hcz : (z == ("__classdict__" : Str)) = false := by decide) (hdb : (x == ("__debug__" : Str)) = false := by decide)
    (he : starEach [.Name z p3] X.env = (false, eval (.Name z p3) X.env) :: starEach [] X.env := by rfl) (hpl : (backTo p4 (starEach [] X.env)).any (·.1) = false := by rfl)
    (hs : swapsWith (.Call (.Name x p2) [.Name z p3] [] p4) (some (.Name y p1)) pos.line X.env = pure false := by rfl) (hf : X.fn y = true ∨ X.env.scope.names.lookup y = some .local := by first | exact .inl rfl | exact .inr rfl) :
    PS X (.Assign [.Name y p1] (.Call (.Name x p2) [.Name z p3] [] p4) pos) (tAsg (tCallSD (spBox X.K) [] (fun σ c d H => W c d σ H) (tCons (tVar j) tNil)) (gName i)) := by
  obtain ⟨f, fd, F, gl, ok, bn⟩ := F
  exact ps_set hN hy hyl (pe_callSD (E := fun σ c d H => W c d σ H) ok (hr.mono hk) hg gl F.kp bn .nil (fun σ => L2N.passAt tk σ) (pa_cons (pe_var hz hzl hdz hcz) pa_nil he) hdb he hpl) hs hf
end DL

set_option Elab.async false
set_option linter.all false
set_option maxRecDepth 100000
namespace DL
open PySem PySem.Spec L2
/-! ### a, b = [..], e: the first may stay one's own -/
section
variable {β : Type} {K : PySem.W.Frag} {g : G β} {H0 H : Hp} {σ : L2.St} {s : S β}
theorem Rel.pin (R : Rel K g H0 σ H s) {p : Addr} {vs : List V} (hp : H p = some (.lst vs)) (n0 : H0 p = none) (nb : p ≠ g.bx) (ap : ∀ (i : Nat) (es : List D), s.sl[i]? = some (.o es) → σ[i]? ≠ some (some (.ref p))) :
    Rel K (g.wF (upd g.F p (.lst vs))) H0 σ H s := by
  refine ⟨⟨R.r0.sub, fun a o e => ?_, fun a o e => ?_, R.r0.bxn, ?_, R.r0.it, R.r0.tb.keep (fun q hq ⟨ps, z⟩ n => by show upd g.F p (.lst vs) q.1 = none; rw [upd_ne fun y => by rw [y, hp] at z; cases z]; exact n) (fun _ _ _ h => h) (.of (Ex.refl _))⟩, R.len, fun i k x h1 h2 => ?_, R.dist⟩
  · have e : upd g.F p (.lst vs) a = some o := e
    by_cases ha : a = p
    · subst ha; rw [upd_same] at e; cases e; exact hp
    · rw [upd_ne ha] at e; exact R.r0.frm a o e
  · have e : upd g.F p (.lst vs) a = some o := e
    by_cases ha : a = p
    · subst ha; exact n0
    · rw [upd_ne ha] at e; exact R.r0.dis a o e
  · show upd g.F p (.lst vs) g.bx = none
    rw [upd_ne (Ne.symm nb)]; exact R.r0.bxF
  · have sr := R.slot i k x h1 h2
    cases k with
    | no => trivial
    | v d => exact sr
    | o ds =>
      obtain ⟨q, ws, e1, e2, rs, m0, mF, mb⟩ := sr
      refine ⟨q, ws, e1, e2, rs, m0, ?_, mb⟩
      show upd g.F p (.lst vs) q = none
      rw [upd_ne fun z => ?_]
      · exact mF
      · subst z; subst e1
        exact ap i ds h1 h2
end
section
variable {β : Type} {X : Cx} {g : G β} {W : WX} {a b : Expr} {ma mb : M β RV} {pos : Pos}
def parO (i j : Nat) (ma mb : M β RV) : M β Fl := mbind ma fun r => mbind (noX mb) fun q => mbind (stV i r) fun _ => mbind (stV j q) fun _ => mret .nx
def tEG (K : PySem.W.Frag) (mg : Str → Option Value) (g : G β) (W : WX) (m : M β RV) : TE := fun σ H Q => ∃ F, tE K mg (g.wF F) W m σ H Q
theorem s_parO {i j : Nat} {x y : Str} {px py pt : Pos} {kt k2 pt2} (hN : X.N.Nodup) (ha : PEM X g W a ma) (hb : ∀ F, PEM X (g.wF F) W b mb) (hc : X.calm = true := by rfl) (hi : X.N[i]? = some x := by rfl) (hj : X.N[j]? = some y := by rfl) (hij : i ≠ j := by decide)
    (hx : X.env.scope.names.lookup x = some .local := by rfl) (hy : X.env.scope.names.lookup y = some .local := by rfl)
    (h1 : starEach (a :: [b]) X.env = (false, eval a X.env) :: starEach [b] X.env := by rfl) (h2 : starEach (b :: []) X.env = (false, eval b X.env) :: starEach [] X.env := by rfl)
    (hw : swappedStores [.Tuple [.Name x px, .Name y py] kt pt] (.Tuple [a, b] k2 pt2) X.env = pure (some [x, y]) := by rfl)
    (hs : swapsWithSole [.Tuple [.Name x px, .Name y py] kt pt] (.Tuple [a, b] k2 pt2) pos.line X.env = pure false := by rfl) : PSM X g W (.Assign [.Tuple [.Name x px, .Name y py] kt pt] (.Tuple [a, b] k2 pt2) pos) (parO i j ma mb) := by
  have hb' : PE X b (tEG X.K X.mg g W mb) := ⟨fun pins s σ H Q I ⟨F, q⟩ => (hb F).run pins s σ H Q I q⟩
  refine PS.imp (ps_par hc hN hi hj hij hx hy (pa_cons ha (pa_cons hb' pa_nil h2) h1) hw hs) fun D σ H ⟨H0, s, R, q⟩ => ?_
  unfold parO at q
  rw [on_bind] at q
  refine ⟨H0, s, R, Out.on_imp q (fun r s1 q v H1 H2 e R1 rr ap => ?_) fun _ _ q => q.e⟩
  rw [on_bind] at q
  cases r with
  | v d =>
    refine ⟨g.F, H1, s1, R1, Out.on_imp (on_noX q) (fun r2 s2 q w H3 H4 e2 R2 rr2 ap2 => ?_) fun _ _ q => q⟩
    have R2 : Rel X.K g H3 σ H4 s2 := R2
    rw [on_bind] at q
    obtain ⟨l1, q⟩ := on_stV q
    rw [on_bind] at q
    obtain ⟨l2, q⟩ := on_stV q
    refine ⟨v, w, rfl, q _ H3 H4 (e.trans e2) (Rel.set (R2.set (r := .v d) (by rw [← R2.len]; exact l1) (Rep.mono rr e2) trivial) (by rw [List.length_set, ← R2.len]; simpa using l2) rr2 ?_)⟩
    cases r2 with
    | v d2 => trivial
    | o es =>
      intro k es' p ep h3 h4
      have h3 : (s2.sl.set i (.v d))[k]? = some (.o es') := h3
      by_cases hk : i = k
      · subst hk
        rw [List.getElem?_set_self l1] at h3
        cases h3
      · rw [List.getElem?_set_ne hk] at h3 h4
        exact ap2 k es' p ep h3 h4
  | o ds =>
    obtain ⟨p, vs, rfl, hp, rs, n0, nF, nb⟩ := rr
    have R1' := R1.pin hp n0 nb fun i es h => ap i es p rfl h
    refine ⟨upd g.F p (.lst vs), H1, s1, R1', Out.on_imp (on_noX q) (fun r2 s2 q w H3 H4 e2 R2 rr2 ap2 => ?_) fun _ _ q => q⟩
    obtain ⟨Rf, hpl, m0, mb', no⟩ := R2.free nF
    rw [on_bind] at q
    obtain ⟨l1, q⟩ := on_stV q
    rw [on_bind] at q
    obtain ⟨l2, q⟩ := on_stV q
    have r1 : ResR X.K g H3 H4 (.ref p) (.o ds) := ⟨p, vs, rfl, hpl, rs.mono e2, m0, nF, mb'⟩
    have a1 : Apart σ s2.sl (.ref p) (.o ds) := fun k es q' eq h3 h4 => by
      cases eq
      exact no ⟨k, es, h3, h4⟩
    have rr2' : ResR X.K g H3 H4 w r2 := by
      cases r2 with
      | v d2 => exact rr2
      | o es =>
        obtain ⟨p2, ws, rfl, z1, z2, z3, z4, z5⟩ := rr2
        refine ⟨p2, ws, rfl, z1, z2, z3, ?_, z5⟩
        cases hz : g.F p2 with
        | none => rfl
        | some o =>
          have z4 : upd g.F p (.lst vs) p2 = none := z4
          rw [upd_ne fun z => ?_] at z4
          · rw [z4] at hz; cases hz
          · rw [z] at hz; rw [nF] at hz; cases hz
    refine ⟨.ref p, w, rfl, q _ H3 H4 (e.trans e2) (Rel.set (Rf.set (r := .o ds) (by rw [← Rf.len]; exact l1) r1 a1) (by rw [List.length_set, ← Rf.len]; simpa using l2) rr2' ?_)⟩
    cases r2 with
    | v d2 => trivial
    | o es =>
      intro k es' p' ep h3 h4
      have h3 : (s2.sl.set i (.o ds))[k]? = some (.o es') := h3
      by_cases hk : i = k
      · subst hk
        rw [List.getElem?_set_self (by rw [← Rf.len]; exact l1)] at h4
        cases h4
        obtain ⟨p2, ws, z0, z1, z2, z3, z4, z5⟩ := rr2
        rw [ep] at z0; cases z0
        have z4 : upd g.F p (.lst vs) p = none := z4
        rw [upd_same] at z4; cases z4
      · rw [List.getElem?_set_ne hk] at h3 h4
        exact ap2 k es' p' ep h3 h4
end
end DL

set_option Elab.async false
set_option linter.all false
set_option maxRecDepth 100000
set_option maxHeartbeats 4000000
namespace DL
open PySem PySem.Spec L2
/-! ### an own exception is made, its context None -/
section
open PyProof.Rows
variable {X : Cx} {CX : CXT} {x : Str} {C fI : Addr} {k : Nat} {fd : FuncData} {ps : List Str} {sp : Sp} {e : Expr} {es : List Expr} {ta : TA} {p pos : Pos}
theorem mk_exc (T : OexC X.K C) (iC : PySem.W.findIn X.K (.ref C) "__init__" = some (some (.ref fI))) (tI : PySem.W.typeIn X.K (.ref fI) = some (.type "function")) (F1 : FnOk X.prog X.w X.K X.mg X.base CX k fI fd ps sp) (hr : Room (k + 1) X.A) (hb : Binds X.K fd ps [])
    (hx : Passes CX X (fun _ _ _ => False)) (hg : Gl X x) (hm : X.mg x = some (.ref C)) (ha : PA X (e :: es) ta) (hdb : (x == ("__debug__" : Str)) = false) (he : starEach (e :: es) X.env = (false, eval e X.env) :: starEach es X.env) (hpl : (backTo pos (starEach es X.env)).any (·.1) = false) :
    L2N.PMk X (.Call (.Name x p) (e :: es) [] pos) (tMkO C sp [] ta) := by
  intro pins s σ H Q I h
  obtain ⟨n1, n2, n3, b1, tail, sl1, sl2, sl3, sl4, sl5, j0, j1, j2, j3, j5, lC, hve⟩ := T.cls
  refine wpAny_Call_Name_kw (ld_glob I hg hm (PySem.W.callWith_K (h₀ := X.base) I.ok.mod.kin T.kC (thn (ha.run pos pins s σ H _ I h) fun us s1 hh => ?_) he hpl) hdb)
  obtain ⟨vs, H1, I1, r1, hz, go⟩ := hh
  refine ⟨I1.kIn, ?_⟩
  obtain ⟨hp, gs, dr, tk, oo⟩ := s1
  have up1 : hp.objs.size ≤ hp.objs.size + 1 := Nat.le_succ _
  have call := go (hp.objs.size + 1) (I1.hok.fresh up1)
  rw [List.append_nil] at call
  have keep : ∀ b o, hp.get? b = some o → ((hp.push (PySem.W.kdv_tup us)).push (PySem.HandSPX.excO C hp.objs.size)).get? b = some o := fun b o z => Heap.get?_push_of_some _ (Heap.get?_push_of_some _ z)
  have I2 : Inv X pins σ (upd H1 (hp.objs.size + 1) (exo (hp.objs.size + 1) C none)) ⟨(hp.push (PySem.W.kdv_tup us)).push (PySem.HandSPX.excO C hp.objs.size), gs, dr, tk, oo⟩ :=
    I1.laid (t' := tk) keep up1 (exo_ok (t1 := hp.objs.size) (by heap_get))
  have r2 : Vals (V.ref (hp.objs.size + 1) :: vs) (Value.ref (hp.objs.size + 1) :: us) := .cons rfl r1
  have lus : us.length ≤ sizeLine := by rw [← Paired.length r1, sizeLine_eq]; omega
  refine wpAny_call (PySem.HandSPX.call_own F.excBase_ValueError (fun Y => PySem.HandSPX.refsVE_contains Y tail hve) (I1.kIn _ _ lC) (PySem.W.looks_findIn I1.kIn iC) (fun self => PySem.W.bind_fn I1.kIn self tI) lus (codeAny_mono (F1.run _ X.stack _ _ ⟨Value.ref (hp.objs.size + 1) :: us, []⟩ (Value.ref (hp.objs.size + 1) :: us) _ _ (fun _ _ _ => False) (hr.make C us []) (I2.env0.make C us [])
    (by have hb2 := hb ⟨(hp.push (PySem.W.kdv_tup us)).push (PySem.HandSPX.excO C hp.objs.size), gs, dr, tk, oo⟩ (Value.ref (hp.objs.size + 1) :: us) I2.kIn (by have := r2.length; rw [F1.len _ _ _ _ call] at this; rw [List.append_nil]; exact this.symm); rwa [List.append_nil] at hb2) r2 call) fun r s' hq => ?_))
  cases r with
  | error er => exact hx pins σ _ _ er s' I2 hq
  | ok fl =>
    cases fl with
    | ret u =>
      obtain ⟨v, H2, eo, eb, un, hok, rv, ev, d, fs, ea, ed, hd, q2⟩ := hq
      subst ev
      obtain ⟨h2, g2, d2, t2, o2⟩ := s'
      obtain ⟨t0, G, J, kG, ge, hoe, na⟩ := mk_end0 (d2 := d2) (t2 := t2) I1 up1 keep un hok eo eb ea ed hd
      exact ⟨rv, _, _, _, ⟨G, g2, d2, t2, o2⟩, _, .ref C, some d, rfl, J, kG, ge, hoe, ⟨rfl, rfl, fun vs e => by cases e; rfl⟩, rfl, rfl, na, rfl, eb, raises_own T.exC T.tyC, q2⟩
    | next => exact False.elim hq
    | brk => exact False.elim hq
    | cont => exact False.elim hq
end
/-! ### what an __init__ of an exception does: fields stored, one or two -/
def spI (C : Addr) (fs : List Str) : Sp := fun vs H Q _ => ∃ (a : Addr) (ws : List V), vs = .ref a :: ws ∧ ws.length = fs.length ∧ H a = some (exo a C none) ∧
  ∀ (d : Addr) (H2 : Hp), H d = none → d ≠ a → H2 a = some (exo a C (some d)) → H2 d = some (exd d (fs.zip ws).reverse) → (∀ b, b ≠ a → b ≠ d → H2 b = H b) → Q .non H2
theorem spI_len {C : Addr} {fs : List Str} {vs : List V} {H : Hp} {Q : VK} {E : XK} (h : spI C fs vs H Q E) : vs.length = (("self" : Str) :: fs).length := by
  obtain ⟨a, ws, rfl, hl, _⟩ := h
  simp [hl]
section
variable {K : PySem.W.Frag} {C : Addr} {f1 f2 : Str} {vs : List V} {H : Hp} {Q : VK} {E : XK}
theorem init1 (T : OexC K C) (n1 : PySem.W.findIn K (.ref C) f1 = some none) (h : spI C [f1] vs H Q E) : tOst K f1 (tVar 0) (tVar 1) { nx := fun _ H' => Q .non H', rt := Q } (L2.start ["self", f1] vs) H := by
  obtain ⟨a, ws, rfl, hl, ea, k⟩ := h
  match ws, hl with
  | [y], _ =>
    refine ⟨y, rfl, .ref a, rfl, a, C, rfl, T, n1, .inl ⟨ea, fun dx n ne => k dx _ n ne upd_same ?_ fun b h1 h2 => by rw [upd_ne h1, upd_ne h2]⟩⟩
    rw [upd_ne ne, upd_same]; rfl
theorem init2 (T : OexC K C) (n1 : PySem.W.findIn K (.ref C) f1 = some none) (n2 : PySem.W.findIn K (.ref C) f2 = some none) (h : spI C [f1, f2] vs H Q E) :
    tSeq (tOst K f1 (tVar 0) (tVar 1)) (tOst K f2 (tVar 0) (tVar 2)) { nx := fun _ H' => Q .non H', rt := Q } (L2.start ["self", f1, f2] vs) H := by
  obtain ⟨a, ws, rfl, hl, ea, k⟩ := h
  match ws, hl with
  | [y, z], _ =>
    refine ⟨y, rfl, .ref a, rfl, a, C, rfl, T, n1, .inl ⟨ea, fun dx n ne => ?_⟩⟩
    refine ⟨z, rfl, .ref a, rfl, a, C, rfl, T, n2, .inr ⟨dx, _, upd_same, by rw [upd_ne ne, upd_same], Nat.le_of_ble_eq_true rfl, k dx _ n ne ?_ upd_same fun b h1 h2 => by rw [upd_ne h2, upd_ne h1, upd_ne h2]⟩⟩
    rw [upd_ne (Ne.symm ne), upd_same]
end
/-- an own exception class, as those that raise it know it -/
structure Xc (P : Program) (w : World) (K : PySem.W.Frag) (mg : Str → Option Value) (base : Heap) (x : Str) (fs : List Str) : Prop where
  ex : ∃ (C fI : Addr) (fd : FuncData), mg x = some (.ref C) ∧ OexC K C ∧ PySem.W.findIn K (.ref C) "__init__" = some (some (.ref fI)) ∧ PySem.W.typeIn K (.ref fI) = some (.type "function") ∧ FnOk P w K mg base (L2N.CX P w) 1 fI fd (("self" : Str) :: fs) (spI C fs) ∧ Binds K fd (("self" : Str) :: fs) []
section
variable {β : Type} {X : Cx} {g : G β} {W : WX} {e : Expr} {es : List Expr} {ls : M β (List D)} {pos p p2 : Pos} {x : Str} {fs : List Str} {k : Nat}
def raiseM (x : Str) (fs : List Str) (ls : M β (List D)) : M β Fl := mbind ls fun ds => fun s => mIte (decide (ds.length = fs.length) && decide (ds.length ≤ 2)) (fun s => .exc ⟨x, (fs.zip ds).reverse⟩ s) mbad s
theorem zip_rev {α : Type} {fs : List Str} {vs : List α} (h : vs.length = fs.length) : (fs.zip vs).reverse.map (·.1) = fs.reverse ∧ (fs.zip vs).reverse.map (·.2) = vs.reverse := by
  rw [List.map_reverse, List.map_reverse]
  constructor
  · congr 1
    exact List.map_fst_zip (by omega)
  · congr 1
    exact List.map_snd_zip (by omega)
theorem passN : Passes (L2N.CX X.prog X.w) X (fun _ _ _ => False) := fun pins σ H s e s' I h => by
  obtain ⟨_, _, _, _, _, _, _, _, _, _, _, _, z⟩ := h
  exact z.elim
theorem s_raise (F : Xc X.prog X.w X.K X.mg X.base x fs) (hr : Room k X.A) (tk : L2N.Takes X W) (ha : PAM X g W (e :: es) ls) (hk : 2 ≤ k := by decide) (hc : X.calm = true := by rfl) (hg : Gl X x := by rfl) (hdb : (x == ("__debug__" : Str)) = false := by decide)
    (he : starEach (e :: es) X.env = (false, eval e X.env) :: starEach es X.env := by rfl) (hpl : (backTo p2 (starEach es X.env)).any (·.1) = false := by rfl) : PSM X g W (.Raise (some (.Call (.Name x p) (e :: es) [] p2)) none pos) (raiseM x fs ls) := by
  obtain ⟨C, fI, fd, hm, T, iC, tI, ok, bn⟩ := F.ex
  refine PS.imp (L2N.ps_raise (W := W) hc tk (mk_exc T iC tI ok (hr.mono hk) bn passN hg hm ha hdb he hpl)) fun D σ H ⟨H0, s, R, q⟩ => ?_
  unfold raiseM at q
  rw [on_bind] at q
  refine ⟨H0, s, R, Out.on_imp q (fun ds s1 q vs H1 H2 e1 R1 rs => ?_) fun _ _ q => q.e⟩
  cases hl : (decide (ds.length = fs.length) && decide (ds.length ≤ 2)) with
  | false => rw [hl] at q; exact q.elim
  | true =>
    rw [hl] at q
    have q : EscS X.K X.mg g W H0 ⟨x, (fs.zip ds).reverse⟩ s1 := q
    obtain ⟨l1, l2⟩ := Bool.and_eq_true_iff.mp hl
    have l1 := of_decide_eq_true l1
    have l2 := of_decide_eq_true l2
    have lv : vs.length = fs.length := by rw [rs.len, l1]
    refine ⟨by rw [rs.len]; omega, fun a na => ⟨a, vs, by simp, lv, upd_same, fun d H3 nd nda ea ed ot => ⟨rfl, d, _, ea, ed, ?_, ?_⟩⟩⟩
    · rw [upd_ne nda] at nd; exact nd
    · have nd1 : H2 d = none := by rw [upd_ne nda] at nd; exact nd
      have eH : upd (L2.del H3 a) d (.xd (fs.zip vs).reverse) = upd H2 d (.xd (fs.zip vs).reverse) := by
        funext b
        by_cases hb : b = d
        · subst hb; rw [upd_same, upd_same]
        · rw [upd_ne hb, upd_ne hb]
          by_cases hba : b = a
          · subst hba; rw [del_same, na]
          · rw [del_ne hba, ot b hba hb, upd_ne hba]
      rw [eH]
      obtain ⟨z1, z2⟩ := zip_rev lv
      obtain ⟨z3, z4⟩ := zip_rev (vs := ds) l1
      have n1 : H1 d = none := R1.r0.sub.back nd1
      have ex1 := Ex.new (o := .xd (fs.zip vs).reverse) n1
      have R2 : Rel X.K g (upd H1 d (.xd (fs.zip vs).reverse)) σ (upd H2 d (.xd (fs.zip vs).reverse)) s1 := R1.grow ex1 (Ex.new nd1) (fun a o e => by
          by_cases ha : a = d
          · rw [ha, upd_same] at e ⊢; exact e
          · rw [upd_ne ha] at e ⊢; exact R1.r0.sub a o e) fun a o e => by
          by_cases ha : a = d
          · rw [ha]; exact .inr nd1
          · rw [upd_ne ha] at e; exact .inl e
      exact q (.ref C) (some d) σ _ _ (e1.trans ex1) R2 ⟨hm, d, _, rfl, upd_same, by show (fs.zip vs).reverse.map (·.1) = (fs.zip ds).reverse.map (·.1); rw [z1, z3], by show Reps _ _ _ ((fs.zip vs).reverse.map (·.2)) ((fs.zip ds).reverse.map (·.2)); rw [z2, z4]; exact rs.reverse.mono ex1⟩
end
end DL

set_option Elab.async false
set_option linter.all false
set_option maxRecDepth 100000
set_option maxHeartbeats 4000000
namespace DL
open PySem PySem.Spec PyProof.Rows L2
/-! ### an iterator's end while an exception is handled -/
section
variable {prog : Program} {w : World} {A : Around} {E : Value → Shared → Prop} {s : Shared} {x1 it : Addr}
theorem _root_.HotX.HotAt.up {h h' : Heap} (hot : HotX.HotAt A x1 h) (k : ∀ o, h.get? x1 = some o → h'.get? x1 = some o) : HotX.HotAt A x1 h' := by
  obtain ⟨hh, o, vs, e, d, c⟩ := hot
  exact ⟨hh, o, vs, k o e, d, c⟩
theorem list_end_hot {l : Addr} {i : Nat} {items : Array Value} {Q : Option Value → Shared → Prop} (hot : HotX.HotAt A x1 s.heap) (hne : x1 ≠ it) (hit : s.heap.IsListIter it l i) (hl : s.heap.IsList l items) (hx : items[i]? = none)
    (hQ : ∀ h', (∀ b o, b ≠ it → s.heap.get? b = some o → h'.get? b = some o) → Q none { s with heap := h' }) : wpAny (model prog w) A (pyNext (.ref it)) Q E s := by
  obtain ⟨o, ho, hc, hd⟩ := id hit
  obtain ⟨ol, hol, _, nl, hdl⟩ := hl
  unfold pyNext
  refine wpAny_bind (wpAny_attempt (wpAny_callSpecial?_slot (name := Str.ofString "__next__") hit.typeIs slot_listiter_next (wpAny_call_entry slot_listiter_next hit.typeIs entry_listiter_next ?_ (args_listiter_next _))))
  show wpAny _ _ (field (.ref it) 0 >>= _) _ _ s
  refine wpAny_bind (wpAny_field ho hd (x := .ref l) rfl ?_)
  show wpAny _ _ (if (Value.ref l == Value.none) = true then _ else _) _ _ s
  rw [if_neg (show ¬ ((Value.ref l == Value.none) = true) from Bool.false_ne_true)]
  show wpAny _ _ (field (.ref it) 1 >>= _) _ _ s
  refine wpAny_bind (wpAny_field ho hd (x := .int i 0) rfl (show wpAny _ _ (seqItems? (.ref l) >>= _) _ _ s from wpAny_bind (wpAny_seqItems hol hdl ?_)))
  simp only [Int.toNat_natCast, hx]
  refine wpAny_bind (wpAny_rule (wpAny_bind (wpAny_setField ho hd (by simp) ?_)))
  have other : ∀ b u, b ≠ it → s.heap.get? b = some u → (s.heap.update it (Obj.mapFields (·.setIfInBounds 0 Value.none))).get? b = some u := fun b u hb e => by rw [Heap.get?_update_other _ _ (Ne.symm hb)]; exact e
  obtain ⟨hh, o1, vs1, h1, d1, c1⟩ := hot
  have h1' := other x1 o1 hne h1
  show wpAny _ _ (newExc (.type "StopIteration") [] >>= _) _ _ _
  refine wpAny_bind ?_
  simp only [newExc, newTuple]
  refine wpAny_bind (wpAny_newObj_type ?_ (by size_fits))
  refine wpAny_bind (m := firstArgMember _ _) (wpAny_of_eq (a := Value.none) (by first | rfl | (simp only [firstArgMember]; rfl)) ?_)
  refine wpAny_newObj_type ?_ (by size_fits)
  refine HotX.raiseNew_hot ⟨hh, o1, vs1, Heap.get?_push_of_some _ (Heap.get?_push_of_some _ h1'), d1, c1⟩ (Nat.ne_of_lt (Heap.lt_size (Heap.get?_push_of_some _ h1'))) (Heap.get?_push_size _ rfl) rfl (by first | (simp; done) | (simp; omega) | (simp only [Array.size_append]; simp; omega)) ?_
  refine wpAny_bind (wpAny_isInstance (T := "StopIteration") (b := true) ⟨_, Heap.get?_update_self _ (Heap.get?_push_size _ rfl) rfl, rfl⟩ isSubtype_stop ?_)
  refine wpAny_pure (hQ _ fun b o hb e => ?_)
  have e2 := other b o hb e
  rw [Heap.get?_update_other _ _ (Nat.ne_of_gt (Heap.lt_size (Heap.get?_push_of_some _ e2)))]
  exact Heap.get?_push_of_some _ (Heap.get?_push_of_some _ e2)
theorem tup_end_hot {t : Addr} {i : Nat} {items : Array Value} {Q : Option Value → Shared → Prop} (hot : HotX.HotAt A x1 s.heap) (hne : x1 ≠ it) (hit : IsTupIter s.heap it t i) (ht : IsTup s.heap t items) (hx : items[i]? = none)
    (hQ : ∀ h', (∀ b o, b ≠ it → s.heap.get? b = some o → h'.get? b = some o) → Q none { s with heap := h' }) : wpAny (model prog w) A (pyNext (.ref it)) Q E s := by
  obtain ⟨o, ho, hc, hd⟩ := id hit
  obtain ⟨ol, hol, _, nl, hdl⟩ := ht
  unfold pyNext
  refine wpAny_bind (wpAny_attempt (wpAny_callSpecial?_slot (name := Str.ofString "__next__") hit.typeIs slot_tupleiter_next (wpAny_call_entry slot_tupleiter_next hit.typeIs entry_tupleiter_next ?_ (args_tupleiter_next _))))
  show wpAny _ _ (field (.ref it) 0 >>= _) _ _ s
  refine wpAny_bind (wpAny_field ho hd (x := .ref t) rfl ?_)
  show wpAny _ _ (if (Value.ref t == Value.none) = true then _ else _) _ _ s
  rw [if_neg (show ¬ ((Value.ref t == Value.none) = true) from Bool.false_ne_true)]
  show wpAny _ _ (field (.ref it) 1 >>= _) _ _ s
  refine wpAny_bind (wpAny_field ho hd (x := .int i 0) rfl (show wpAny _ _ (seqItems? (.ref t) >>= _) _ _ s from wpAny_bind (wpAny_seqItems hol hdl ?_)))
  simp only [Int.toNat_natCast, hx]
  refine wpAny_bind (wpAny_rule (wpAny_bind (wpAny_setField ho hd (by simp) ?_)))
  have other : ∀ b u, b ≠ it → s.heap.get? b = some u → (s.heap.update it (Obj.mapFields (·.setIfInBounds 0 Value.none))).get? b = some u := fun b u hb e => by rw [Heap.get?_update_other _ _ (Ne.symm hb)]; exact e
  obtain ⟨hh, o1, vs1, h1, d1, c1⟩ := hot
  have h1' := other x1 o1 hne h1
  show wpAny _ _ (newExc (.type "StopIteration") [] >>= _) _ _ _
  refine wpAny_bind ?_
  simp only [newExc, newTuple]
  refine wpAny_bind (wpAny_newObj_type ?_ (by size_fits))
  refine wpAny_bind (m := firstArgMember _ _) (wpAny_of_eq (a := Value.none) (by first | rfl | (simp only [firstArgMember]; rfl)) ?_)
  refine wpAny_newObj_type ?_ (by size_fits)
  refine HotX.raiseNew_hot ⟨hh, o1, vs1, Heap.get?_push_of_some _ (Heap.get?_push_of_some _ h1'), d1, c1⟩ (Nat.ne_of_lt (Heap.lt_size (Heap.get?_push_of_some _ h1'))) (Heap.get?_push_size _ rfl) rfl (by first | (simp; done) | (simp; omega) | (simp only [Array.size_append]; simp; omega)) ?_
  refine wpAny_bind (wpAny_isInstance (T := "StopIteration") (b := true) ⟨_, Heap.get?_update_self _ (Heap.get?_push_size _ rfl) rfl, rfl⟩ isSubtype_stop ?_)
  refine wpAny_pure (hQ _ fun b o hb e => ?_)
  have e2 := other b o hb e
  rw [Heap.get?_update_other _ _ (Nat.ne_of_gt (Heap.lt_size (Heap.get?_push_of_some _ e2)))]
  exact Heap.get?_push_of_some _ (Heap.get?_push_of_some _ e2)
/-- a tuple taken apart there -/
theorem untup_hot {t : Addr} {items : Array Value} {Q : List Value → Shared → Prop} (hot : HotX.HotAt A x1 s.heap) (ht : IsTup s.heap t items) (hQ : ∀ h', (∀ b o, s.heap.get? b = some o → h'.get? b = some o) → Q items.toList { s with heap := h' }) :
    wpAny (model prog w) A (unpackItems (.ref t) items.size none) Q E s := by
  have hlt : t ≠ s.heap.objs.size := by obtain ⟨o, ho, _⟩ := ht; exact Nat.ne_of_lt (Heap.lt_size ho)
  have hx1 : x1 ≠ s.heap.objs.size := by obtain ⟨_, o, _, ho, _⟩ := hot; exact Nat.ne_of_lt (Heap.lt_size ho)
  unfold unpackItems
  refine wpAny_bind ?_
  unfold notIterableAtAll
  refine wpAny_bind (wpAny_specialOf ht.typeIs slot_tuple_iter.lookup (wpAny_pure ?_))
  simp only [Bool.false_eq_true, if_false]
  refine wpAny_bind (wpAny_holding (iter_tuple ht (wpAny_bind (wpAny_holding (draw_tuple hlt items.size 0 _ _ ⟨_, Heap.get?_push_size _ rfl, rfl, rfl⟩ (ht.push _) (by omega) fun h₁ hit₁ hs₁ => ?_)))))
  rw [List.drop_zero, List.take_of_length_le (by simp), if_neg (by simp)]
  have kp : ∀ b o, s.heap.get? b = some o → h₁.get? b = some o := fun b o e => hs₁.extBut b o (Nat.ne_of_lt (Heap.lt_size e)) (Heap.get?_push_of_some _ e)
  refine wpAny_bind (wpAny_holding (tup_end_hot (x1 := x1) (hot.up fun o e => kp _ o e) hx1 hit₁ ((ht.push _).extBut hs₁.extBut hlt) (by simp) fun h₂ k₂ => ?_))
  simp only [Option.isSome_none, Bool.false_eq_true, if_false]
  exact wpAny_pure (hQ h₂ fun b o e => k₂ b o (Nat.ne_of_lt (Heap.lt_size e)) (kp b o e))
end
/-! ### contexts in which an exception is handled -/
structure HotI (X : Cx) (x1 : Addr) (oe : Obj) : Prop where
  hh : X.A.handled = some (.ref x1)
  ctx : ∃ vs : Array Value, oe.data = .fields vs ∧ vs[2]? = some .none
  at_ : ∀ (pins : List (Addr × Obj)) (σ : L2.St) (H : Hp) (s : Shared), Inv X pins σ H s → H x1 = some (.frz oe (.own 0))
theorem HotI.hot {X : Cx} {x1 : Addr} {oe : Obj} {pins : List (Addr × Obj)} {σ : L2.St} {H : Hp} {s : Shared} (hc : HotI X x1 oe) (I : Inv X pins σ H s) : HotX.HotAt X.A x1 s.heap := by
  obtain ⟨vs, d, c⟩ := hc.ctx
  obtain ⟨e, _⟩ := I.hok x1 _ (hc.at_ _ _ _ _ I)
  exact ⟨hc.hh, oe, vs, e, d, c⟩
section
variable {X : Cx} {x1 : Addr} {oe : Obj}
theorem pg_tupH {es : List Expr} {k : Nat} {t : TGs} {n : Nat} {pos : Pos} (hc : HotI X x1 oe) (h : PGs X es t) (hn : (assignEach es X.env).length = n := by rfl) (hst : (assignEach es X.env).findIdx? (·.1) = none := by rfl) : PG X (.Tuple es k pos) (gTup X.K n t) := by
  refine ⟨fun pins s σ H v u Q I r ⟨a, xs, e1, hq, hl, hw⟩ => ?_⟩
  subst e1
  cases r
  obtain ⟨its, rv, ht, hz⟩ := I.tuple hq
  rw [assign_Tuple]
  refine wpAny_bind (wpAny_standAt ?_)
  have hsz : (assignEach es X.env).length = its.toArray.size := by simp [hn, ← hl, rv.length]
  unfold unpack
  rw [hsz, hst]
  refine wpAny_bind (wpAny_holding (untup_hot (hc.hot I) ht fun h' kp => ?_))
  have I1 : Inv X pins σ H { s with heap := h' } := I.kept (t' := s.toks) kp
  exact h.run pins _ σ H xs _ Q I1 (by simpa using rv) hw
theorem HotI.blk {pins : List (Addr × Obj)} {σ : L2.St} {H : Hp} {s : Shared} {scope : Scope} {cenv : Env} {fp : List Addr} (hc : HotI X x1 oe) (I : Inv X pins σ H s) : HotI (X.blk s H scope cenv fp) x1 oe where
  hh := hc.hh
  ctx := hc.ctx
  at_ := fun pins' σ' H' s' J => J.base.frzs _ _ _ (hc.at_ _ _ _ _ I)
end
end DL

set_option Elab.async false
set_option linter.all false
set_option maxRecDepth 100000
set_option maxHeartbeats 4000000
namespace DL
open PySem PySem.Spec PyProof.Rows L2
/-! ### a list comprehension over a list while an exception is handled -/
def tLcH (K : PySem.W.Frag) (ti : TE) (g : TG) (tt : TT) (te : TE) (own : List Nat) : TE := fun σ H Q => ti σ H fun x H1 => ∃ (a : Addr) (xs : List V), x = .ref a ∧ SqL K H1 a xs ∧ ∀ Dl, H1 Dl = none → ∃ W : Nat → Hp → Prop, W 0 (upd H1 Dl (.lst [])) ∧ ∀ i H, W i H → i ≤ xs.length ∧ SqL K H a xs ∧ (i = xs.length → Q (.ref Dl) H) ∧
  ∀ y, xs[i]? = some y → g y (wipe σ own) H fun σ2 H2 => wipe σ2 own = wipe σ own ∧ tt σ2 H2 fun b H3 => if b = true then te σ2 H3 fun z H4 => ∃ acc, H4 Dl = some (.lst acc) ∧ acc.length < sizeLine ∧ W (i + 1) (upd H4 Dl (.lst (acc ++ [z]))) else W (i + 1) H3
section
variable {X : Cx} {x1 : Addr} {oe : Obj}
theorem pe_lcH {elt tg iter : Expr} {ifs : List Expr} {scope : Scope} {own : List (Str × Nat)} {pos : Pos} {ti : TE} {g : TG} {tt : TT} {te : TE} (hc : HotI X x1 oe) (hN : X.N.Nodup) (hi : PE X iter ti) (ok : BlkOk X.N X.env.scope scope own)
    (hg : ∀ (s : Shared) (H : Hp) (C : Addr) (cl : List (Str × Addr)) (fp : List Addr), HotI (X.blk s H scope (compEnvC scope cl C X.env) fp) x1 oe → PG (X.blk s H scope (compEnvC scope cl C X.env) fp) tg g)
    (ht : ∀ (s : Shared) (H : Hp) (C : Addr) (cl : List (Str × Addr)) (fp : List Addr), PTs (X.blk s H scope (compEnvC scope cl C X.env) fp) ifs tt)
    (he : ∀ (s : Shared) (H : Hp) (C : Addr) (cl : List (Str × Addr)) (fp : List Addr), PE (X.blk s H scope (compEnvC scope cl C X.env) fp) elt te) (hs : ∀ x, foldedSetIterable iter X.env x = pure x := by intro _; rfl) :
    PE X (.ListComp elt [⟨tg, iter, ifs, 0⟩] scope pos) (tLcH X.K ti g tt te (own.map (·.2))) := by
  refine ⟨fun pins s σ H Q I h => ?_⟩
  rw [eval_ListComp]
  have hfree : ∀ y ∈ scope.names, y.2 = .free → ∃ c, X.env.cells.lookup y.1 = some c := fun y hy e => (ok.free y hy e).elim (fun k => I.ok.has _ (.inl k)) fun k => I.ok.has _ (.inr k)
  refine wpAny_comprehension_free (use := none) rfl hs (closure_ok hfree) ok.kind (fun y hy e => by rw [ok.uniq y hy, e]) (thn (hi.run pins s σ H _ I h) fun xv s1 hx => ?_)
  obtain ⟨_, H1, I1, rx, a, xs, rfl, hsq, hq⟩ := hx
  cases rx
  obtain ⟨its0, rv0, pl0, hz0⟩ := I1.list hsq
  refine wpAny_pyIter_list pl0.isList (wpAny_newObj_type (newEnv_comp ?_) (by show 0 ≤ sizeLine; decide))
  -- the iterator's address, the new list's
  generalize hit : s1.heap.objs.size = it
  have ni : H1 it = none := I1.hok.fresh (Nat.le_of_eq hit)
  generalize hg2 : s1.heap.push ({ cls := .type "list_iterator", data := .fields #[.ref a, .int 0 0] } : Obj) = g2
  have z2 : g2.objs.size = it + 1 := by rw [← hg2, Heap.size_push, hit]
  have I2 : Inv X pins σ H1 { s1 with heap := g2 } := I1.kept (t' := s1.toks) fun b o e => by rw [← hg2]; exact Heap.get?_push_of_some _ e
  have st2 : g2.IsListIter it a 0 := ⟨_, by rw [← hg2, ← hit]; exact Heap.get?_push_size _ rfl, rfl, rfl⟩
  generalize hD : g2.objs.size = Dl
  have nD : H1 Dl = none := I2.hok.fresh (Nat.le_of_eq hD)
  obtain ⟨W, w0, turn⟩ := hq Dl nD
  generalize hg3 : g2.push ({ cls := .type "list", data := .seq ([] : List Value).toArray } : Obj) = g3
  have I3 : Inv X pins σ (upd H1 Dl (.lst [])) { s1 with heap := g3 } := by
    rw [← hg3]
    exact I2.laid (t' := s1.toks) (fun b o e => Heap.get?_push_of_some _ e) (Nat.le_of_eq hD) ⟨Nat.zero_le _, [], 0, .nil, by rw [← hD]; exact Heap.get?_push_size _ rfl⟩
  have z3 : g3.objs.size = it + 2 := by rw [← hg3, Heap.size_push, z2]
  have nDit : it ≠ Dl := by rw [← hD, z2]; exact Nat.ne_of_lt (Nat.lt_succ_self _)
  have st3 : g3.IsListIter it a 0 := st2.at fun o e => by rw [← hg3]; exact Heap.get?_push_of_some _ e
  have fpI : FpOk X pins (upd H1 Dl (.lst [])) it := by
    have z := I1.fpOk (H' := H1) (b := it) (Nat.le_of_eq hit) ni
    exact ⟨by rw [upd_ne nDit]; exact ni, z.2⟩
  have I4 := block_start (scope := scope) (own := own) (fp := [it]) I3 ok hN (fun b hb => by
    have e : b = it := by simpa using hb
    subst e
    exact ⟨fpI, by show b < g3.objs.size; rw [z3]; exact Nat.lt_add_of_pos_right (by decide)⟩)
  generalize hC : g3.objs.size = C at I4
  have hC' : (({ s1 with heap := g3 } : Shared).heap.objs.size) = C := hC
  have pg := hg { s1 with heap := g3 } (upd H1 Dl (.lst [])) C (cellsFrom (C + 1) scope.names (cloFrom X.env.cells scope.names [])) [it]
  have pt := ht { s1 with heap := g3 } (upd H1 Dl (.lst [])) C (cellsFrom (C + 1) scope.names (cloFrom X.env.cells scope.names [])) [it]
  have pe := he { s1 with heap := g3 } (upd H1 Dl (.lst [])) C (cellsFrom (C + 1) scope.names (cloFrom X.env.cells scope.names [])) [it]
  have x1it : x1 ≠ it := fun z => by
    have := hc.at_ _ _ _ _ I1
    rw [z, ni] at this; cases this
  have hot4 : HotI (X.blk { s1 with heap := g3 } (upd H1 Dl (.lst [])) scope (compEnvC scope (cellsFrom (C + 1) scope.names (cloFrom X.env.cells scope.names [])) C X.env) [it]) x1 oe := HotI.blk hc I3
  show codeAny _ _ (.compStart (.ListComp elt [⟨tg, iter, ifs, 0⟩] scope pos) 0 (.ref it) (.ref Dl) (compEnvC scope (cellsFrom (C + 1) scope.names (cloFrom X.env.cells scope.names [])) C X.env)) (compPost (model X.prog X.w) X.A X.xe none (EP X pins σ Q) (.ref Dl) C) { s1 with heap := pushCells (g3.push { cls := .type "dict", data := .dict #[] }) scope.names }
  generalize hce : compEnvC scope (cellsFrom (C + 1) scope.names (cloFrom X.env.cells scope.names [])) C X.env = ce at I4 pg pt pe hot4 ⊢
  have cL : ce.locals = C := by subst hce; rfl
  have st4 : (pushCells (g3.push { cls := .type "dict", data := .dict #[] }) scope.names).IsListIter it a 0 := st3.at fun o e => pushCells_keeps _ _ _ _ (Heap.get?_push_of_some _ e)
  generalize hH3 : upd H1 Dl (.lst []) = H3 at *
  generalize hs3 : ({ s1 with heap := g3 } : Shared) = s3 at *
  generalize hs4 : ({ s1 with heap := pushCells (g3.push { cls := .type "dict", data := .dict #[] }) scope.names } : Shared) = s4 at *
  have st4' : s4.heap.IsListIter it a 0 := by rw [← hs4]; exact st4
  have I4' : Inv (X.blk s3 H3 scope ce [it]) [] (wipe σ (own.map (·.2))) H3 s4 := by
    have := I4
    rw [← hs3] at this
    rw [← hs4, ← hs3]
    exact this
  have stat : ∀ {σ' : L2.St} {H' : Hp} {s' : Shared}, Inv (X.blk s3 H3 scope ce [it]) [] σ' H' s' → H' it = none → FpOk (X.blk s3 H3 scope ce [it]) [] H' it := fun {σ' H' s'} I' hn =>
    ⟨hn, (I'.ok.exf it (by simp)).1, I'.ok.exfs it (by simp), .inl (by simp), fun x c e => (I'.ok.exf it (by simp)).2 x c e, fun p hp => absurd (show p ∈ ([] : List (Addr × Obj)) ++ [] from hp) (by simp)⟩
  have loop : codeAny (model X.prog X.w) X.A (.compLoop (.ListComp elt [⟨tg, iter, ifs, 0⟩] scope pos) 0 (.ref it) (.ref Dl) ce) (compPost (model X.prog X.w) X.A X.xe none (EP X pins σ Q) (.ref Dl) C) s4 := by
    refine compLoop_any (fun n s' => ∃ i H', n + i = xs.length ∧ Inv (X.blk s3 H3 scope ce [it]) [] (wipe σ (own.map (·.2))) H' s' ∧ s'.heap.IsListIter it a i ∧ H' it = none ∧ W i H') ?_ xs.length ⟨0, H3, rfl, I4', st4', fpI.1, w0⟩
    rintro n s5 ⟨i, H5, hn, I5, st5, n5, w5⟩
    obtain ⟨hle, sq, fin, step⟩ := turn i H5 w5
    obtain ⟨its, rv, pl, hz⟩ := I5.list (show SqL (X.blk s3 H3 scope ce [it]).K H5 a xs from sq)
    have hlen := rv.length
    obtain ⟨f0, f1, f2, f3, f4, f5⟩ := stat I5 n5
    cases hxi : xs[i]? with
    | none =>
      have hi2 : xs.length ≤ i := List.getElem?_eq_none_iff.mp hxi
      refine list_end_hot (x1 := x1) (hot4.hot I5) x1it st5 pl.isList (by simp; omega) fun h' eb => ?_
      have I6 : Inv (X.blk s3 H3 scope ce [it]) [] (wipe σ (own.map (·.2))) H5 { s5 with heap := h' } := I5.turned (t' := s5.toks) eb f0 f1 f3 f4 f5
      have I7 : Inv X pins σ H5 { s5 with heap := h' } := I3.call' (ch := [it]) I6.os I6.base I6.hok I6.bare fun b hb => by
        have e : b = it := by simpa using hb
        subst e
        exact ⟨fpI.2.2.2.1, fpI.2.1, fpI.2.2.2.2.1, fpI.2.2.2.2.2⟩
      have nC : H5 C = none := by
        have z : H5 ce.locals = none := I6.free
        rwa [cL] at z
      obtain ⟨m, hnm, _⟩ := I6.loc
      have hnm : Heap.Ns _ ce.locals m := hnm
      rw [cL] at hnm
      refine ⟨m, hnm, fun h'' sb => ?_⟩
      obtain ⟨q0, q1, q2, q3, q4, q5⟩ := I3.fpOk (H' := H5) (b := C) (by rw [← hC, ← hs3]; exact Nat.le_refl _) nC
      exact ⟨.ref Dl, H5, I7.turned (t' := s5.toks) (fun b o hb e => (sb.2 b hb).trans e) q0 q1 q3 q4 q5, rfl, fin (by omega)⟩
    | some y =>
      obtain ⟨u, hu, ru⟩ := rv.get hxi
      refine wpAny_pyNext_list_item st5 pl.isList (x := u) (by simpa using hu) fun h' st' sb => ?_
      have I6 : Inv (X.blk s3 H3 scope ce [it]) [] (wipe σ (own.map (·.2))) H5 { s5 with heap := h' } := I5.turned (t' := s5.toks) (fun b o hb e => (sb.2 b hb).trans e) f0 f1 f3 f4 f5
      obtain ⟨oi, e1, c1, d1⟩ := id st'
      refine go_of (s := { s5 with heap := h' }) e1 c1 d1 (by decide) ?_
      have I6' := I6.pinned (fp := [it]) (fun b hb => by rw [show b = it from by simpa using hb]; exact stat I6 n5) (fun b hb => by rw [show b = it from by simpa using hb]; exact ⟨oi, e1, fun v z => by rw [d1] at z; cases z⟩)
      refine thnF ((pg hot4).run _ _ _ H5 y u _ I6' ru (step y hxi)) fun _ s8 ⟨σ8, H8, I8, hw8, q8⟩ => ?_
      refine thnF (pt.run _ s8 σ8 H8 _ I8 q8) fun b s9 ⟨H9, I9, q9⟩ => ?_
      have fin2 : ∀ {s' : Shared} {H' : Hp}, Inv (X.blk s3 H3 scope ce [it]) ([] ++ pinsAt [it] h') σ8 H' s' → W (i + 1) H' → ∃ m, m < n ∧ ∃ i H', m + i = xs.length ∧ Inv (X.blk s3 H3 scope ce [it]) [] (wipe σ (own.map (·.2))) H' s' ∧ s'.heap.IsListIter it a i ∧ H' it = none ∧ W i H' := fun {s' H'} I' w' => by
        have zp := I'.pin (it, oi) (List.mem_append_right _ (List.mem_append_right _ (mem_pinsAt (by simp) e1)))
        have hl : (wipe σ (own.map (·.2))).length = σ8.length := by rw [← hw8, wipe_length]
        have hlt : i < xs.length := (List.getElem?_eq_some_iff.mp hxi).1
        refine ⟨n - 1, by omega, i + 1, H', by omega, (I'.unpinned (pins := [])).weak hl (fun j v e => ?_), st'.at fun o e => ?_, zp.2.1, w'⟩
        · rw [← hw8] at e
          exact (wipe_some e).1
        · have e : h'.get? it = some o := e
          rw [e1] at e; cases e
          exact zp.1
      cases b with
      | false =>
        simp only [Bool.false_eq_true, if_false] at q9 ⊢
        exact fin2 I9 q9
      | true =>
        simp only [if_true] at q9 ⊢
        refine thnF (pe.run _ s9 σ8 H9 _ I9 q9) fun z s10 ⟨yv, H10, I10, r10, acc, hD10, hz10, nx⟩ => ?_
        exact app_ok (X := X.blk s3 H3 scope ce [it]) I10 hD10 hz10 r10 fun s11 I11 => fin2 I11 nx
  exact codeAny_compStart_list loop (wpAny_pyIter_listiter st4' loop)
end
end DL

set_option Elab.async false
set_option linter.all false
set_option maxRecDepth 100000
set_option maxHeartbeats 4000000
namespace DL
open PySem PySem.Spec L2 L2H
/-! ### defs called while an exception is handled -/
def HotA (A : Around) (x1 : Addr) (oe : Obj) (H : Hp) : Prop := A.handled = some (.ref x1) ∧ (∃ vs : Array Value, oe.data = .fields vs ∧ vs[2]? = some .none) ∧ H x1 = some (.frz oe (.own 0))
def FnG (P : Program) (w : World) (K : PySem.W.Frag) (mg : Str → Option Value) (base : Heap) (k : Nat) (f : Addr) (fd : FuncData) (ps : List Str) (sp : Sp) : Prop :=
  ∀ (A : Around) (outer : List Env) (s : Shared) (H : Hp) (us : List Value) (vs : List V) (Q : VK) (E : XK) (x1 : Addr) (oe : Obj), RoomH k A → HotA A x1 oe H → Env0 P w K mg base A outer s H → BindsTo s fd ⟨us, []⟩ (ps.zip us) → Vals vs us → vs.length = ps.length → sp vs H Q E →
    codeAny (model P w) A (.call (.ref f) ⟨us, []⟩) (CR (L2N.CX P w) outer P w H s Q E) s
/-- such a def's body: no pin is needed, one of the ground is put -/
abbrev hcx (P : Program) (w : World) (K : PySem.W.Frag) (mg : Str → Option Value) (base : Heap) (N : List Str) (qual : Str) (scope : Scope) (f : Addr) (cd : Value) (A : Around) (outer : List Env) (s : Shared) (H : Hp) (E : XK) (p : Addr × Obj) : Cx := cxH (L2N.CX P w) P w K mg base N qual scope f cd A outer s H E p
section
open PyProof.Rows
variable {P : Program} {w : World} {K : PySem.W.Frag} {mg : Str → Option Value} {base : Heap} {A : Around} {outer : List Env} {s : Shared} {H : Hp}
theorem pin0 (e0 : Env0 P w K mg base A outer s H) : ∃ p, PinOk outer H s p := by
  obtain ⟨o, es, ep, e, d, _⟩ := e0.mod.glob
  refine ⟨(mainGlobals, o), (e0.bs _ _ e).1, (e0.bs _ _ e).2, fun hm => ?_, fun v z => ?_⟩
  · obtain ⟨n, _⟩ := e0.funs.mem hm
    rw [e] at n; cases n
  · have z : o.data = .cell v := z
    rw [d] at z; cases z
theorem hcx_hot {N : List Str} {qual : Str} {scope : Scope} {f : Addr} {cd : Value} {E : XK} {p : Addr × Obj} {x1 : Addr} {oe : Obj} (h : HotA A x1 oe H) : HotI (hcx P w K mg base N qual scope f cd A outer s H E p) x1 oe where
  hh := h.1
  ctx := h.2.1
  at_ := fun pins σ H' s' I => I.base.frzs _ _ _ h.2.2
theorem fng_of {x qual : Str} {params : Arguments} {body : List Stmt} {scope : Scope} {dvs : List V} {kws : List (Str × V)} {f : Addr} {fd : FuncData} {N ps : List Str} {k : Nat} {sp : Sp} (F : FunD K x qual params body scope dvs kws f fd) (S : FnScope N ps scope)
    (hbody : ∀ (cdv : Value) (A : Around) (outer : List Env) (s : Shared) (H : Hp) (vs : List V) (Q : VK) (E : XK) (x1 : Addr) (oe : Obj) (p : Addr × Obj), RoomH k (A.deeper (envOfC qual scope s.heap.objs.size f cdv)) → HotI (hcx P w K mg base N qual scope f cdv A outer s H E p) x1 oe → sp vs H Q E →
      ∃ t, PSs (hcx P w K mg base N qual scope f cdv A outer s H E p) body t ∧ t { nx := fun _ H' => Q .non H', rt := Q } (L2.start N vs) H) : FnG P w K mg base (k + 1) f fd ps sp := by
  obtain ⟨oc, od, dV, kV, doc, pm, an, cdv, ct, osl, rfl, lk, hcd, _, _⟩ := F.ex
  intro A outer s H us vs Q E x1 oe hr hot e0 hb r hl hsp
  have inK : K.In s.heap := e0.mod.kin.keeps fun b o e => (e0.bs b o e).1
  have par : ∀ y ∈ ps.zip us, scope.names.lookup y.1 = some .local ∨ (scope.names.lookup y.1 = some .cell ∧ ((cellsFrom (s.heap.objs.size + 1) scope.names []).lookup y.1).isSome = true) := fun ⟨n, v⟩ hy => (S.par n (List.of_mem_zip hy).1).imp id fun q => ⟨q, PySem.W.cellsFrom_some _ _ _ (.inl q)⟩
  obtain ⟨p, hp⟩ := pin0 e0
  refine codeAny_call_function hr.depth (inK _ _ lk) rfl S.co S.gen rfl (PySem.W.codeRec_of inK hcd) (hb _ _ _ _ (wpAny_newFunctionEnv_cells S.kind par fun env he s1 xx => ?_))
  subst he
  refine ⟨(e0.mod.nolimit.keeps fun b o e => (e0.bs b o e).1).keeps xx.toInCall.keep, codeAny_func ?_⟩
  obtain ⟨t, ht, hq⟩ := hbody cdv A outer s H vs Q E x1 oe p (hr.deeper _) (hcx_hot hot) hsp
  refine wpAny_mono (ht.run [] s1 (L2.start N vs) H _ (inv_startH S hp e0 hl r xx) hq) (fun fl s' hs => ?_) fun e s' hs => hs
  match fl, hs with
  | .ret u, ⟨v, σ', H', J, rv, q⟩ => exact ⟨v, H', J.os, J.bare, J.base, J.hok, rv, q⟩
  | .next, ⟨σ', H', J, q⟩ => exact ⟨V.non, H', J.os, J.bare, J.base, J.hok, rfl, q⟩
  | .brk, ⟨_, _, _, q⟩ => exact False.elim q
  | .cont, ⟨_, _, _, q⟩ => exact False.elim q
end
section
variable {X : Cx} {k : Nat} {f : Addr} {fd : FuncData} {ps : List Str} {sp : Sp} {E : L2.St → XK} {x : Str} {p pos : Pos} {e : Expr} {es : List Expr} {t : TA} {x1 : Addr} {oe : Obj}
theorem pe_callG (F : FnG X.prog X.w X.K X.mg X.base k f fd ps sp) (hr : RoomH k X.A) (hc : HotI X x1 oe) (hg : Gl X x) (hm : X.mg x = some (.ref f)) (hk : PySem.W.keepIn X.K (.ref f) = true) (hb : Binds X.K fd ps []) (hx : ∀ σ, PassesAt (L2N.CX X.prog X.w) X σ (E σ)) (ha : PA X (e :: es) t)
    (hdb : (x == ("__debug__" : Str)) = false := by decide) (he : starEach (e :: es) X.env = (false, eval e X.env) :: starEach es X.env := by rfl) (hpl : (backTo pos (starEach es X.env)).any (·.1) = false := by rfl) :
    PE X (.Call (.Name x p) (e :: es) [] pos) (fun σ H Q => t σ H fun vs H1 => vs.length = ps.length ∧ sp vs H1 Q (E σ)) := by
  refine ⟨fun pins s σ H Q I h => wpAny_Call_Name_kw (ld_glob I hg hm (PySem.W.callWith_K (h₀ := X.base) I.ok.mod.kin hk (thn (ha.run pos pins s σ H _ I h) fun us s1 hh => ?_) he hpl) hdb)⟩
  obtain ⟨vs, H1, I1, r, hl, q⟩ := hh
  have bd := hb s1 us I1.kIn (by rw [List.append_nil, ← r.length]; exact hl)
  rw [List.append_nil] at bd
  refine ⟨I1.kIn, wpAny_call (codeAny_mono (F X.A X.stack s1 H1 us vs Q (E σ) x1 oe hr ⟨hc.hh, hc.ctx, hc.at_ _ _ _ _ I1⟩ I1.env0 bd r hl q) fun r s' hq => ?_)⟩
  match r, hq with
  | .error er, hq => exact hx σ pins H1 s1 er s' I1 hq
  | .ok (.ret u), hq => exact I1.after hq
  | .ok .next, hq => exact False.elim hq
  | .ok .brk, hq => exact False.elim hq
  | .ok .cont, hq => exact False.elim hq
end
/-! ### their mirrors -/
def Dh (P : Program) (w : World) (K : PySem.W.Frag) (mg : Str → Option Value) (base : Heap) (k : Nat) (x : Str) (st : Stmt) (ps : List Str) (m : DefM Unit) : Prop :=
  ∃ f fd, FunD K x x (defArgs st) (defBody st) (defScope st) [] [] f fd ∧ mg x = some (.ref f) ∧ FnG P w K mg base k f fd ps (spOf K mg ps.length m) ∧ Binds K fd ps []
theorem dh_mk {P : Program} {w : World} {K : PySem.W.Frag} {mg : Str → Option Value} {base : Heap} {x : Str} {st : Stmt} {ps : List Str} (N : List Str) {k : Nat} {mb : M Unit Fl} (F : Fd K mg x st) (S : FnScope N ps (defScope st))
    (bn : ∀ (kV doc pm : Value) (an : Option Addr) (cdv ct : Value) (us : List Value), us.length = ps.length → bindArgs (PySem.W.fnOf x x (defArgs st) (defBody st) (defScope st) .none kV doc pm an cdv ct) ⟨us, []⟩ = pure (ps.zip us))
    (hb : ∀ (f : Addr) (cdv : Value) (A : Around) (outer : List Env) (s : Shared) (H : Hp) (E : XK) (g : G Unit) (x1 : Addr) (oe : Obj) (p : Addr × Obj), RoomH k (A.deeper (PyProof.Rows.envOfC x (defScope st) s.heap.objs.size f cdv)) → HotI (hcx P w K mg base N x (defScope st) f cdv A outer s H E p) x1 oe →
      PSSM (hcx P w K mg base N x (defScope st) f cdv A outer s H E p) g (fun c d _ H => E c d H) (defBody st) mb) : Dh P w K mg base (k + 1) x st ps (runDef N.length mb) := by
  obtain ⟨f, fd, F, gl⟩ := F
  exact ⟨f, fd, F, gl, fng_of F S fun cdv A outer s H vs Q E x1 oe p hr hc ⟨g, H0, b, ds, hG, hn, r0, rs, h⟩ => ⟨_, hb f cdv A outer s H E g x1 oe p hr hc, body_ok r0 rs h⟩, F.bindsN bn⟩
section
variable {β : Type} {X : Cx} {g : G β} {W : WX} {a b c e : Expr} {es : List Expr} {m : M β RV} {ma : M β Arg} {ms : M β (List Arg)} {pos p : Pos} {x : Str} {st : Stmt} {ps : List Str} {k k' : Nat} {x1 : Addr} {oe : Obj}
theorem callP_len {n : Nat} {K : PySem.W.Frag} {mg : Str → Option Value} {md : DefM Unit} {σ : L2.St} {H : Hp} {Q : VK} (h : tE K mg g W (callP n md ms) σ H Q) : tAB K mg g W ms σ H fun vs H1 => vs.length = n ∧ spOf K mg n md vs H1 Q (fun c d H => W c d σ H) := by
  obtain ⟨H0, s, R, q⟩ := callP_sp' h
  exact ⟨H0, s, R, Out.on_imp q (fun as s1 q vs H1 H2 e1 R1 ra => ⟨spOf_len _ _ _ _ (q vs H1 H2 e1 R1 ra), q vs H1 H2 e1 R1 ra⟩) fun _ _ q => q⟩
theorem e_cPH {n : Nat} {md : DefM Unit} (F : Dh X.prog X.w X.K X.mg X.base k x st ps md) (hr : RoomH k' X.A) (hc : HotI X x1 oe) (tk : L2N.Takes X W) (ha : PABM X g W (e :: es) ms) (hk : k ≤ k' := by decide) (hg : Gl X x := by rfl)
    (hdb : (x == ("__debug__" : Str)) = false := by decide) (he : starEach (e :: es) X.env = (false, eval e X.env) :: starEach es X.env := by rfl) (hpl : (backTo pos (starEach es X.env)).any (·.1) = false := by rfl) (hn : ps.length = n := by rfl) : PEM X g W (.Call (.Name x p) (e :: es) [] pos) (callP n md ms) := by
  subst hn
  obtain ⟨f, fd, FD, gl, F, bn⟩ := F
  exact PE.imp (pe_callG (E := fun σ c d H => W c d σ H) F (hr.mono hk) hc hg gl FD.kp bn (fun σ => L2N.passAt tk σ) ha hdb he hpl) fun σ H Q h => callP_len h
end
end DL

set_option Elab.async false
set_option linter.all false
set_option maxRecDepth 100000
set_option maxHeartbeats 4000000
namespace DL
open PySem PySem.Spec PyProof.Rows L2 L2H
/-! ### isinstance of an exception that is handled -/
/-- at a: an exception of the class that the module's name c stands for -/
def XAt (K : PySem.W.Frag) (H : Hp) (a : Addr) (c : Str) : Prop := ∃ (oe : Obj) (dd : Addr) (vs : Array Value) (fs : List (Str × V)), H a = some (.frz oe (.own 0)) ∧ oe.cls = .ref (He.ga K c) ∧ oe.dict = some dd ∧ oe.data = .fields vs ∧ H dd = some (.xd fs)
theorem XAt.up {K : PySem.W.Frag} {H H' : Hp} {a : Addr} {c : Str} (h : XAt K H a c) (e : Ex H H') : XAt K H' a c := by
  obtain ⟨oe, dd, vs, fs, h1, h2, h3, h4, h5⟩ := h
  exact ⟨oe, dd, vs, fs, e _ _ h1, h2, h3, h4, e _ _ h5⟩
theorem Rep.xAt {K : PySem.W.Frag} {bx : Addr} {H H' : Hp} {v : V} {c : Str} {ds : List (Str × D)} (r : Rep K bx H v (.exc c ds)) (e : Ex H H') : ∃ a, v = .ref a ∧ XAt K H' a c := by
  cases r with
  | exc h h1 h2 h3 h4 h5 l q => exact ⟨_, rfl, _, _, _, _, e _ _ h, h1, h2, h3, e _ _ h5⟩
theorem XAt.inst {X : Cx} {pins : List (Addr × Obj)} {σ : L2.St} {H : Hp} {s : Shared} {a : Addr} {c : Str} (h : XAt X.K H a c) (I : Inv X pins σ H s) : ∃ oe od, PySem.W.InstAt s.heap a oe (He.ga X.K c) (some od) := by
  obtain ⟨oe, dd, vs, fs, h1, h2, h3, h4, h5⟩ := h
  obtain ⟨mA, hns, _⟩ := (show ObjOk X.prog X.w H s.heap dd (.xd fs) from I.hok dd _ h5)
  obtain ⟨od, ho, _⟩ := lookIn_ns hns
  exact ⟨oe, od, (I.hok a _ h1).1, h2, by unfold PySem.W.notCls; rw [h4] <;> rfl, by rw [h3]; exact ho⟩
def rIsX (K : PySem.W.Frag) : List V → Hp → VK → Prop := fun xs H Q => ∃ (a : Addr) (c : Str) (y : V) (cv : Value) (b : Bool), xs = [.ref a, y] ∧ (∀ u, RelV y u → u = cv) ∧ XAt K H a c ∧ ExcC K (He.ga K c) ∧ PySem.W.kitOne K (.ref (He.ga K c)) cv = some b ∧ Q (.bl b) H
theorem call_isX {X : Cx} : CallR X (.builtin "isinstance") (rIsX X.K) := by
  intro pins s σ H xs us Q I r h
  obtain ⟨a, c, y, cv, b, rfl, hcv, hx, C, e, q⟩ := h
  obtain ⟨u1, u2, rfl, r1, r2⟩ := vals2 r
  cases r1
  have ec := hcv _ r2
  subst ec
  obtain ⟨oe, od, J⟩ := hx.inst I
  obtain ⟨cd, hcd, _⟩ := PySem.W.any_some C.hd
  exact PySem.W.kia_one (PySem.W.kitx_exc (by rw [hcd]; rfl) C.hg C.hk C.hs C.ha C.hn C.ht C.hm) I.kIn J e (fun z => nomatch z) fun tk => ⟨.bl b, H, I.kept (t' := tk) fun _ _ z => z, rfl, q⟩
/-! ### the rows ("C", isinstance(error, C)) -/
section
variable {X : Cx} {a : Addr} {c y : Str} {b : Bool} {rs : List (Str × Bool)} {es : List Expr} {e : Expr} {p p1 p2 p3 p4 pos : Pos}
def tIsX (K : PySem.W.Frag) (a : Addr) (c : Str) (b : Bool) : TE := fun σ H Q => σ[0]? = some (some (.ref a)) ∧ XAt K H a c ∧ Q (.bl b) H
/-- C a class of the module | a built-in one -/
theorem is_own (C : ExcC X.K (He.ga X.K c)) (hi : X.mg "isinstance" = none) (hy : X.mg y = some (.ref (He.ga X.K y))) (k : PySem.W.kitOne X.K (.ref (He.ga X.K c)) (.ref (He.ga X.K y)) = some b) (hN : X.N[0]? = some ("error" : Str) := by rfl) (hv : Vis X.env.scope "error" := by exact Or.inl rfl) (hg : Gl X "isinstance" := by rfl) (hgy : Gl X y := by rfl)
    (hdy : (y == ("__debug__" : Str)) = false := by decide) (he : starEach [.Name "error" p1, .Name y p2] X.env = (false, eval (.Name "error" p1) X.env) :: starEach [.Name y p2] X.env := by rfl) (he2 : starEach [.Name y p2] X.env = (false, eval (.Name y p2) X.env) :: starEach [] X.env := by rfl)
    (hpl : (backTo pos (starEach [.Name y p2] X.env)).any (·.1) = false := by rfl) : PE X (.Call (.Name "isinstance" p) [.Name "error" p1, .Name y p2] [] pos) (tIsX X.K a c b) :=
  PE.imp (pe_callB call_isX hg hi boot_isinstance (pa_cons (pe_var hN hv) (pa_cons (pe_glob (v := .ref (He.ga X.K y)) hgy hy rfl hdy) pa_nil he2) he) (he := he) (hpl := hpl)) fun σ H Q ⟨h1, h2, q⟩ => ⟨.ref a, h1, a, c, _, _, b, rfl, fun u r => r, h2, C, k, q⟩
theorem is_blt {T : String} (C : ExcC X.K (He.ga X.K c)) (hi : X.mg "isinstance" = none) (hy : X.mg y = none) (k : PySem.W.kitOne X.K (.ref (He.ga X.K c)) (.type T) = some b) (hT : bootBuiltins y = some (.type T) := by decide +kernel) (hN : X.N[0]? = some ("error" : Str) := by rfl) (hv : Vis X.env.scope "error" := by exact Or.inl rfl) (hg : Gl X "isinstance" := by rfl) (hgy : Gl X y := by rfl)
    (hn : y ≠ "__name__" := by decide) (hdy : (y == ("__debug__" : Str)) = false := by decide) (he : starEach [.Name "error" p1, .Name y p2] X.env = (false, eval (.Name "error" p1) X.env) :: starEach [.Name y p2] X.env := by rfl) (he2 : starEach [.Name y p2] X.env = (false, eval (.Name y p2) X.env) :: starEach [] X.env := by rfl)
    (hpl : (backTo pos (starEach [.Name y p2] X.env)).any (·.1) = false := by rfl) : PE X (.Call (.Name "isinstance" p) [.Name "error" p1, .Name y p2] [] pos) (tIsX X.K a c b) :=
  PE.imp (pe_callB call_isX hg hi boot_isinstance (pa_cons (pe_var hN hv) (pa_cons (pe_bltn (v := .ty T) hgy hy hT rfl hn hdy) pa_nil he2) he) (he := he) (hpl := hpl)) fun σ H Q ⟨h1, h2, q⟩ => ⟨.ref a, h1, a, c, _, _, b, rfl, fun u r => r, h2, C, k, q⟩
theorem pairedAt {α γ : Type} {F : α → γ → Prop} : ∀ {xs : List α} {ys : List γ} {i : Nat} {x : α}, Paired F xs ys → xs[i]? = some x → ∃ y, ys[i]? = some y ∧ F x y
  | _, _, _, _, .nil, e => by simp at e
  | _, _, 0, _, .cons r _, e => by simp at e; subst e; exact ⟨_, rfl, r⟩
  | _, _, i + 1, x, .cons _ t, e => by
    obtain ⟨u, h1, h2⟩ := pairedAt (i := i) (x := x) t (by simpa using e)
    exact ⟨u, by simpa using h1, h2⟩
def RowAt (H : Hp) (v : V) (r : Str × Bool) : Prop := ∃ q, v = .ref q ∧ H q = some (.tup [.str r.1, .bl r.2])
abbrev RowsAt (H : Hp) : List V → List (Str × Bool) → Prop := Paired (RowAt H)
theorem RowsAt.up {H H' : Hp} {vs : List V} {rs : List (Str × Bool)} (h : RowsAt H vs rs) (e : Ex H H') : RowsAt H' vs rs := Paired.mapP h fun v r ⟨q, h1, h2⟩ => ⟨q, h1, e _ _ h2⟩
def tRows (K : PySem.W.Frag) (a : Addr) (c : Str) (rs : List (Str × Bool)) : TA := fun σ H Q => σ[0]? = some (some (.ref a)) ∧ XAt K H a c ∧ ∀ vs H', Ex H H' → RowsAt H' vs rs → Q vs H'
theorem rows_nil : PA X [] (tRows X.K a c []) := PA.imp pa_nil fun σ H Q ⟨_, _, q⟩ => q [] H (Ex.refl _) .nil
theorem rows_cons {j k : Nat} (h1 : PE X e (tIsX X.K a c b)) (h2 : PA X es (tRows X.K a c rs)) (hs : starEach (.Tuple [.Constant (.str y) j p1, e] k p2 :: es) X.env = (false, eval (.Tuple [.Constant (.str y) j p1, e] k p2) X.env) :: starEach es X.env := by rfl)
    (hs1 : starEach [.Constant (.str y) j p1, e] X.env = (false, eval (.Constant (.str y) j p1) X.env) :: starEach [e] X.env := by rfl) (hs2 : starEach [e] X.env = (false, eval e X.env) :: starEach [] X.env := by rfl) : PA X (.Tuple [.Constant (.str y) j p1, e] k p2 :: es) (tRows X.K a c ((y, b) :: rs)) :=
  PA.imp (pa_cons (pe_tup (pa_cons pe_str (pa_cons h1 pa_nil hs2) hs1)) h2 hs) fun σ H Q ⟨s0, hx, q⟩ => ⟨s0, hx, (by show 2 ≤ sizeLine; rw [sizeLine_eq]; omega), fun p hp => ⟨s0, hx.up (Ex.new hp), fun vs H' e' r => q _ H' ((Ex.new hp).trans e') (.cons ⟨p, rfl, e' _ _ upd_same⟩ r)⟩⟩
end
/-! ### what the def makes of them: the names of the classes -/
def namesOf (rs : List (Str × Bool)) : List Str := (rs.filter (·.2)).map (·.1)
theorem cls_run {K : PySem.W.Frag} {a : Addr} {c : Str} {rs : List (Str × Bool)} {H : Hp} {D' : Ends} (hx : XAt K H a c) (hl : rs.length ≤ 100) (k : ∀ q H', Ex H H' → H q = none → H' q = some (.lst ((namesOf rs).map V.str)) → D'.rt (.ref q) H') :
    tSeq (tAsg (tLst (tRows K a c rs)) (gName 1)) (tRet (tLcH K (tVar 1) (gTup K 2 (gCons (gName 2) (gCons (gName 3) gNil))) (fun σ H Q => tVar 3 σ H fun x H' => ∃ k, TruV K x H' k ∧ Q k H') (tVar 2) [2, 3])) D' (L2.start ["error", "marks", "tag", "yes"] [.ref a]) H := by
  refine ⟨rfl, hx, fun vs H1 e1 rw1 => ?_⟩
  have lv : vs.length = rs.length := Paired.length rw1
  have big : 100 ≤ sizeLine := by rw [sizeLine_eq]; omega
  refine ⟨by omega, fun p hp => ?_⟩
  have e2 : Ex H1 (upd H1 p (.lst vs)) := Ex.new hp
  refine ⟨.ref p, rfl, p, vs, rfl, .of upd_same, fun Dl hD => ?_⟩
  have nD : Dl ≠ p := fun z => by rw [z, upd_same] at hD; cases hD
  have e3 : ∀ o, Ex (upd H1 p (.lst vs)) (upd (upd H1 p (.lst vs)) Dl o) := fun o => Ex.new hD
  refine ⟨fun i H' => i ≤ vs.length ∧ H' = upd (upd H1 p (.lst vs)) Dl (.lst ((namesOf (rs.take i)).map V.str)), ⟨Nat.zero_le _, by simp [namesOf]⟩, fun i H' hW => ?_⟩
  obtain ⟨hi, rfl⟩ := hW
  refine ⟨hi, .of (by rw [upd_ne (Ne.symm nD), upd_same]), fun hl2 => ?_, fun y hy => ?_⟩
  · refine k Dl _ ((e1.trans e2).trans (e3 _)) ((e1.trans e2).back hD) ?_
    rw [upd_same, hl2, lv, List.take_length]
  · obtain ⟨r, hr, q, rfl, hq⟩ := pairedAt rw1 hy
    have hq3 : upd (upd H1 p (.lst vs)) Dl (.lst ((namesOf (rs.take i)).map V.str)) q = some (.tup [.str r.1, .bl r.2]) := e3 _ _ _ (e2 _ _ hq)
    have hi2 : i < vs.length := (List.getElem?_eq_some_iff.mp hy).1
    have et : rs.take (i + 1) = rs.take i ++ [r] := by rw [List.take_add_one, hr]; rfl
    refine ⟨q, _, rfl, .of hq3, rfl, ⟨_, _, rfl, _, _, rfl, rfl, ?_⟩⟩
    refine ⟨rfl, .bl r.2, rfl, r.2, rfl, ?_⟩
    cases h2 : r.2 with
    | true =>
      rw [if_pos rfl]
      refine ⟨.str r.1, rfl, _, upd_same, ?_, by omega, ?_⟩
      · have : (namesOf (rs.take i)).length ≤ i := by
          unfold namesOf
          rw [List.length_map]
          exact Nat.le_trans (List.length_filter_le _ _) (by rw [List.length_take]; exact Nat.min_le_left _ _)
        rw [List.length_map]; omega
      · rw [upd_upd, et]
        simp [namesOf, List.filter_append, h2]
    | false =>
      rw [if_neg Bool.false_ne_true]
      refine ⟨by omega, ?_⟩
      rw [et]
      simp [namesOf, List.filter_append, h2]
end DL

set_option Elab.async false
set_option linter.all false
set_option maxRecDepth 100000
set_option maxHeartbeats 4000000
namespace DL
open PySem PySem.Spec L2 L2H
theorem _root_.L2H.RoomH.units {k : Nat} {A : Around} (r : RoomH k A) : A.units + 64 < cLine := by have := r.un; omega
/-! ### the names of the classes of an exception, by a def -/
structure XF (K : PySem.W.Frag) (xs : XS) : Prop where
  exc : ∀ c ∈ xs, ExcC K (He.ga K c.1)
  fld : ∀ c ∈ xs, ∀ f ∈ c.2, PySem.W.findIn K (.ref (He.ga K c.1)) f = some none
def clsM (rs : Str → List (Str × Bool)) (xs : XS) : DefM Unit := fun ds b => match ds with
  | [.exc c _] => if c ∈ xs.map (·.1) then .ok (.o ((namesOf (rs c)).map D.str)) b else .bad
  | _ => .bad
theorem reps_strs {K : PySem.W.Frag} {bx : Addr} {H : Hp} (ns : List Str) : Reps K bx H (ns.map V.str) (ns.map D.str) := ⟨by simp, fun i v d h h' => by
  rw [List.getElem?_map, Option.map_eq_some_iff] at h h'
  obtain ⟨n, hn, rfl⟩ := h
  obtain ⟨m, hm, rfl⟩ := h'
  rw [hn] at hm; cases hm
  exact .str⟩
theorem Rel0.more {β : Type} {g : G β} {H0 H H' : Hp} {b : β} (r : Rel0 g H0 H b) (e : Ex H H') : Rel0 g H0 H' b := by
  obtain ⟨o, hb, ib⟩ := r.it
  exact ⟨r.sub.trans e, r.frm.trans e, r.dis, r.bxn, r.bxF, ⟨o, e _ _ hb, ib⟩, r.tb.keep (fun _ _ _ h => h) (fun _ _ _ h => h) (.of e)⟩
theorem dh_classes {P : Program} {w : World} {K : PySem.W.Frag} {mg : Str → Option Value} {base : Heap} {x : Str} {st : Stmt} {rs : Str → List (Str × Bool)} {xs : XS} (F : Fd K mg x st) (S : FnScope ["error", "marks", "tag", "yes"] ["error"] (defScope st)) (hrs : ∀ c, (rs c).length ≤ 100)
    (bn : ∀ (kV doc pm : Value) (an : Option Addr) (cdv ct : Value) (us : List Value), us.length = 1 → bindArgs (PySem.W.fnOf x x (defArgs st) (defBody st) (defScope st) .none kV doc pm an cdv ct) ⟨us, []⟩ = pure ([("error" : Str)].zip us))
    (hb : ∀ (c : Str), c ∈ xs.map (·.1) → ∀ (f a : Addr) (cdv : Value) (A : Around) (outer : List Env) (s : Shared) (H : Hp) (E : XK) (x1 : Addr) (oe : Obj) (p : Addr × Obj), HotI (hcx P w K mg base ["error", "marks", "tag", "yes"] x (defScope st) f cdv A outer s H E p) x1 oe →
      PSs (hcx P w K mg base ["error", "marks", "tag", "yes"] x (defScope st) f cdv A outer s H E p) (defBody st) (tSeq (tAsg (tLst (tRows K a c (rs c))) (gName 1)) (tRet (tLcH K (tVar 1) (gTup K 2 (gCons (gName 2) (gCons (gName 3) gNil))) (fun σ H Q => tVar 3 σ H fun x H' => ∃ k, TruV K x H' k ∧ Q k H') (tVar 2) [2, 3])))) :
    Dh P w K mg base 1 x st ["error"] (clsM rs xs) := by
  obtain ⟨f, fd, FD, gl⟩ := F
  refine ⟨f, fd, FD, gl, fng_of FD S fun cdv A outer s H vs Q E x1 oe p hr hc hsp => ?_, FD.bindsN bn⟩
  obtain ⟨g, H0, b, ds, hG, hn, r0, rsp, h⟩ := hsp
  match ds, hn with
  | [d], _ =>
    obtain ⟨v, rfl, rv⟩ := rsp.cases1
    cases d with
    | exc c fs =>
      have h : (if c ∈ xs.map (·.1) then Out.ok (RV.o ((namesOf (rs c)).map D.str)) b else .bad : Out Unit RV).on _ _ := h
      by_cases hm : c ∈ xs.map (·.1)
      · rw [if_pos hm] at h
        obtain ⟨a, rfl, hx⟩ := rv.xAt r0.sub
        refine ⟨_, hb c hm f a cdv A outer s H E x1 oe p hc, cls_run hx (hrs c) fun q H' e hq hq' => ?_⟩
        refine h (.ref q) H0 H' (Ex.refl _) (r0.more e) ⟨q, _, rfl, hq', reps_strs _, r0.sub.back hq, r0.frm.back hq, fun z => ?_⟩
        obtain ⟨o, hb, _⟩ := r0.it
        rw [z, hb] at hq; cases hq
      · rw [if_neg hm] at h; exact h.elim
    | _ => exact h.elim
/-! ### a field of an exception -/
section
variable {β : Type} {X : Cx} {g : G β} {W : WX} {pos p : Pos} {n f : Str}
def xfM (xs : XS) (i : Nat) (f : Str) : M β RV := fun s => match s.sl[i]? with
  | some (.v (.exc c fs)) => opt ((xs.lookup c).bind fun l => if f ∈ l then (fs.lookup f).map RV.v else none) s
  | _ => .bad
theorem lookup_reps {K : PySem.W.Frag} {bx : Addr} {H : Hp} {f : Str} : ∀ {fs : List (Str × V)} {ds : List (Str × D)} {d : D}, fs.map (·.1) = ds.map (·.1) → (∀ (i : Nat) (v : V) (d : D), (fs.map (·.2))[i]? = some v → (ds.map (·.2))[i]? = some d → Rep K bx H v d) → ds.lookup f = some d → ∃ v, fs.lookup f = some v ∧ Rep K bx H v d
  | [], [], d, _, _, h => by cases h
  | (a, v) :: fs, (b, e) :: ds, d, hk, hr, h => by
    simp only [List.map_cons, List.cons.injEq] at hk
    obtain ⟨h1, h2⟩ := hk
    have h1 : a = b := h1
    subst h1
    rw [List.lookup_cons] at h ⊢
    cases q : (f == a) with
    | true =>
      rw [q] at h
      cases h
      exact ⟨v, rfl, hr 0 v e rfl rfl⟩
    | false =>
      rw [q] at h
      exact lookup_reps h2 (fun i v d k1 k2 => hr (i + 1) v d (by simpa using k1) (by simpa using k2)) h
  | [], _ :: _, _, hk, _, _ => by simp at hk
  | _ :: _, [], _, hk, _, _ => by simp at hk
theorem mem_look {xs : XS} {c : Str} {l : List Str} : xs.lookup c = some l → (c, l) ∈ xs := by
  induction xs with
  | nil => intro h; cases h
  | cons q r ih =>
    obtain ⟨b, m⟩ := q
    intro h
    rw [List.lookup_cons] at h
    cases e : (c == b) with
    | true => rw [e] at h; cases h; rw [beq_iff_eq.mp e]; exact List.mem_cons_self
    | false => rw [e] at h; exact List.mem_cons_of_mem _ (ih h)
theorem e_xf (xs : XS) (i : Nat) (T : XF X.K xs) (hN : X.N[i]? = some n := by rfl) (hv : Vis X.env.scope n := by first | exact Or.inl rfl | exact Or.inr (Or.inl rfl) | exact Or.inr (Or.inr rfl)) (hd : (n == ("__debug__" : Str)) = false := by decide) (hcd : (n == ("__classdict__" : Str)) = false := by decide)
    (hb : attributeBase (.Name n p) f X.env (eval (.Name n p) X.env) = eval (.Name n p) X.env := by rfl) : PEM X g W (.Attribute (.Name n p) f pos) (xfM xs i f) := by
  refine ⟨fun pins s σ H Q I h => ?_⟩
  obtain ⟨H0, st, R, h⟩ := h
  unfold xfM at h
  cases hs : st.sl[i]? with
  | none => rw [hs] at h; exact h.elim
  | some k =>
    have hi : i < σ.length := by rw [← R.len]; exact (List.getElem?_eq_some_iff.mp hs).1
    have sr := R.slot i k σ[i] hs (by simp [hi])
    cases k with
    | no => rw [hs] at h; exact h.elim
    | o ds => rw [hs] at h; exact h.elim
    | v d =>
      cases d with
      | exc c fs =>
        rw [hs] at h
        obtain ⟨v, e1, r⟩ := sr
        cases hl : xs.lookup c with
        | none =>
          have h : (opt (β := β) ((xs.lookup c).bind fun l => if f ∈ l then (fs.lookup f).map RV.v else none) st).on _ _ := h
          rw [hl] at h; exact h.elim
        | some l =>
          have h : (opt (β := β) ((xs.lookup c).bind fun l => if f ∈ l then (fs.lookup f).map RV.v else none) st).on _ _ := h
          rw [hl, Option.bind_some] at h
          by_cases hm : f ∈ l
          · rw [if_pos hm] at h
            cases hf : fs.lookup f with
            | none => rw [hf] at h; exact h.elim
            | some d =>
              rw [hf] at h
              have hx := mem_look hl
              obtain ⟨a, rfl, xat⟩ := r.xAt R.r0.sub
              cases r with
              | @exc _ oe dd vs fv _ _ k0 k1 k2 k3 k4 k5 k6 k7 =>
                obtain ⟨x, hlk, rx⟩ := lookup_reps k6 k7 hf
                refine attr_of hb (thn ((pe_var (pos := p) hN hv hd hcd).run pins s σ H (fun v H1 => v = .ref a ∧ H1 = H) I ⟨.ref a, by simp [hi, e1], rfl, rfl⟩) fun u s1 hh => ?_)
                obtain ⟨_, _, I1, rv, rfl, rfl⟩ := hh
                cases rv
                have Hd := R.r0.sub _ _ k5
                obtain ⟨mA, hns, hr⟩ := (show ObjOk X.prog X.w _ s1.heap dd (.xd fv) from I1.hok dd _ Hd)
                obtain ⟨od, ho, hlo⟩ := lookIn_ns hns
                obtain ⟨u, hu, ru⟩ := RelO.some_of (v := x) (o := mA f) (by rw [← hlk]; exact hr f)
                have C := T.exc _ hx
                have J : PySem.W.InstAt s1.heap a oe (He.ga X.K c) (some od) := ⟨(I1.hok a _ (R.r0.sub _ _ k0)).1, k1, by unfold PySem.W.notCls; rw [k3] <;> rfl, by rw [k2]; exact ho⟩
                exact HandSPX.exc_get I1.kIn J C.hg C.hk C.hs (PySem.W.findObj_own C.hd (T.fld _ hx f hm) rfl (by rw [hlo, hu])) (handed_of ru) ⟨x, _, I1.tok _, ru, h x H0 _ (Ex.refl _) R rx trivial⟩
          · rw [if_neg hm] at h; exact h.elim
      | _ => rw [hs] at h; exact h.elim
end
end DL

set_option Elab.async false
set_option linter.all false
set_option maxRecDepth 100000
set_option maxHeartbeats 4000000
namespace DL
open PySem PySem.Spec PyProof.Rows L2 L2H
/-! ### try: .. except C as e: suite, several; the exception is tracked in the suite -/
def endA (D' : Ends) (i : Nat) : Ends := { nx := fun σ H => D'.nx (σ.set i none) H, bk := fun σ H => D'.bk (σ.set i none) H, ct := fun σ H => D'.ct (σ.set i none) H, rt := D'.rt }
def wA (K : PySem.W.Frag) (i : Nat) (Wout : WX) (D' : Ends) : List (Value × (Addr → Obj → TS)) → WX
  | [] => Wout
  | (c, ts) :: r => fun cls d σ H => ∃ b, PySem.W.exmOne K cls c = some b ∧ (b = true → ∀ a oe, H a = none → L2N.Zn cls d oe → (∃ vs, oe.data = .fields vs) → ts a oe (endA D' i) (σ.set i (some (.ref a))) (upd H a (.frz oe (.own 0)))) ∧ (b = false → wA K i Wout D' r cls d σ H)
inductive HdA (X : Cx) (n : Str) : List ExceptHandler → List (Value × (Addr → Obj → TS)) → Prop
  | nil : HdA X n [] []
  | cons {x : Str} {c : Value} {ts : Addr → Obj → TS} {b₀ : Stmt} {suite : List Stmt} {np pos' : Pos} {hds : List ExceptHandler} {l : List (Value × (Addr → Obj → TS))} (hc : Names X x c) (hsu : ∀ a oe, PSs (X.suite a X.pn) (b₀ :: suite) (ts a oe)) (r : HdA X n hds l) :
      HdA X n (.ExceptHandler (some (.Name x np)) (some n) (b₀ :: suite) pos' :: hds) ((c, ts) :: l)
section
variable {X : Cx} {pins : List (Addr × Obj)} {σ : L2.St} {H : Hp} {s : Shared} {a : Addr} {oe : Obj} {vs : Array Value}
theorem inv_hs (I : Inv X pins σ H s) (ha : s.heap.get? a = some oe) (hd : oe.data = .fields vs) (na : H a = none) (n0 : X.s_0.heap.get? a = none) (nL : a ≠ X.env.locals) (np : ∀ p ∈ X.pn ++ pins, p.1 ≠ a) : Inv (X.suite a X.pn) pins σ (upd H a (.frz oe (.own 0))) s := by
  have at_ : ∀ {b u}, H b = some u → upd H a (.frz oe (.own 0)) b = some u := fun {b u} e => by rw [upd_ne (ne_of_none e na)]; exact e
  refine ⟨I.ok.suite _ _, I.os, I.bare, ⟨I.base.keep, I.base.slot, fun b o e n x => ?_, I.base.there, fun b xs e => at_ (I.base.tups b xs e), fun b o u e => at_ (I.base.frzs b o u e), fun b ps e => ?_⟩, I.loc, I.cell, ?_, fun y c e => ?_, fun p hp => ?_, fun b u q => ?_, I.len⟩
  · rw [upd_ne fun z => by rw [z, n0] at e; cases e]
    exact I.base.free b o e n x
  · obtain ⟨m, q⟩ := I.base.tbls b ps e
    exact ⟨m, at_ q⟩
  · show upd H a _ X.env.locals = none
    rw [upd_ne (Ne.symm nL)]; exact I.free
  · rw [upd_ne fun z => ?_]
    · exact I.freeC y c e
    · obtain ⟨v, o, ho, hc⟩ := I.cell y c e
      rw [z, ha] at ho
      cases ho
      rw [hd] at hc; cases hc
  · obtain ⟨p1, p2, p3⟩ := I.pin p hp
    exact ⟨p1, by rw [upd_ne (np p hp)]; exact p2, p3⟩
  · by_cases hb : b = a
    · subst hb
      rw [upd_same] at q
      cases q
      exact ⟨ha, oe, ha⟩
    · rw [upd_ne hb] at q
      exact (I.hok b u q).stay (fun c v _ z => z) (fun c r => at_ r) fun c xs r => at_ r
theorem inv_sh (I : Inv (X.suite a X.pn) pins σ H s) (ok : X.Ok) : Inv X pins σ H s := ⟨ok, I.os, I.bare, I.base, I.loc, I.cell, I.free, I.freeC, I.pin, I.hok, I.len⟩
end
section
variable {X : Cx} {n : Str} {i : Nat} {body : List Stmt} {h₀ : ExceptHandler} {hds : List ExceptHandler} {l : List (Value × (Addr → Obj → TS))} {pos : Pos} {tb : WX → TS} {Wout : WX}
theorem ps_tryA (hs : X.stack = X.env :: X.outer) (hf : X.env.frame = some X.env.locals) (hex : X.ex = []) (hN : X.N.Nodup) (hi : X.N[i]? = some n) (hln : X.env.kindOf n = some .local) (tk : L2N.Takes X Wout)
    (hb : ∀ (W : WX) (pn : List (Addr × Obj)) (xe : Value → Shared → Prop), L2N.Takes (X.tr pn xe) W → PassesOwn (model X.prog X.w) X.A X.env xe → PSs (X.tr pn xe) body (tb W)) (hh : HdA X n (h₀ :: hds) l) :
    PS X (.Try body (h₀ :: hds) [] [] pos) (fun D' σ H => tb (wA X.K i Wout D' l) D' σ H) := by
  refine ⟨fun pins s σ H D' I h => ?_⟩
  have ok := I.ok
  have hfr : X.A.frames = some (X.env :: X.outer) := by rw [ok.frames, hs]
  refine wpAny_Try_except (wpAny_mono ((hb (wA X.K i Wout D' l) (X.pn ++ pins) (fun e s₁ => wpAny (model X.prog X.w) X.A (noteFrame e X.env) (fun _ s₂ => wpAny (model X.prog X.w) X.A (setFlight e none) (fun _ s₃ => wpAny (model X.prog X.w) X.A (handleBy e X.env (h₀ :: hds)) (SP X pins D') X.xe s₃) X.xe s₂) X.xe s₁) (fun u s' xx => ?_) PassesOwn.looking).run [] s σ H D' (I.toTry _) h) (fun f s1 hsp => ?_) (fun e s1 he => he))
  · -- caught
    obtain ⟨a, B, sI, pins', σ', H', cls, d, rfl, J', nb, up, sky, na, os, ag, w⟩ := xx
    have J : Inv X pins σ' H' sI := J'.ofTry ok
    have sky' : Sky B (X.env :: X.outer) a (L2N.Zn cls d) X.env.locals s'.heap := by rw [← hs]; exact sky
    refine L2N.Sky.land L2N.Zn.steady hfr hf sky' fun h3 fl3 up3 => ?_
    have J3 : Inv X pins σ' H' { s' with heap := h3 } := J.landed nb fl3.1 (up.trans up3) os ag
    have nfr : a ∉ frs (X.env :: X.outer) := fun hm => by
      obtain ⟨oe, vs, e, _, dd⟩ := fl3.there
      obtain ⟨_, o', e', hnf⟩ := fl3.2.2.1.mem hm
      rw [e] at e'; cases e'
      exact hnf _ dd
    have nSI : sI.heap.get? a = none := by
      cases q : sI.heap.get? a with
      | none => rfl
      | some o =>
        have := nb a o q (by rw [hs]; exact nfr)
        rw [fl3.2.1] at this; cases this
    have n0 : X.s_0.heap.get? a = none := by
      cases q : X.s_0.heap.get? a with
      | none => rfl
      | some o =>
        obtain ⟨o', e⟩ := J.base.there a o q (by rw [hex]; simp)
        rw [nSI] at e; cases e
    have np : ∀ p ∈ X.pn ++ pins, p.1 ≠ a := fun p hp z => by
      have := (J.pin p hp).1
      rw [z, nSI] at this; cases this
    have nL : a ≠ X.env.locals := fun z => nfr (List.mem_filterMap.mpr ⟨X.env, List.mem_cons_self, by rw [hf, z]⟩)
    have nF : a ∉ X.fs := fun hm => by
      obtain ⟨e, he, q⟩ := List.mem_filterMap.mp hm
      exact nfr (List.mem_filterMap.mpr ⟨e, List.mem_cons_of_mem _ he, q⟩)
    obtain ⟨oe3, vs3, he3, hz3, hd3⟩ := fl3.there
    have S3 := J3.suite he3 hd3 na nL nF
    have LT : PySem.W.Looks (model X.prog X.w) h3 (typeOf (.ref a)) cls := fun A Q E s k q => wpAny_typeOf_ref (k _ _ he3) (by rw [hz3.1]; exact q)
    have go : ∀ {hds' : List ExceptHandler} {l' : List (Value × (Addr → Obj → TS))}, HdA X n hds' l' → wA X.K i Wout D' l' cls d σ' H' → wpAny (model X.prog X.w) X.A (handleBy (.ref a) X.env hds') (SP X pins D') X.xe { s' with heap := h3 } := by
      intro hds' l' hk
      induction hk with
      | nil =>
        intro w
        refine wpAny_handleBy_nil ?_
        obtain ⟨_, _, _, o1, v1, T, oT, tv, e1, z1, d1, h1, _⟩ := id fl3
        unfold PySem.passOn
        refine wpAny_bind (wpAny_field e1 d1 h1 ?_)
        rw [if_neg (show ¬ ((Value.ref T == Value.none) = true) from by simp)]
        have last : wpAny (model X.prog X.w) X.A (setFlight (.ref a) X.env.frame) (fun _ s4 => wpAny (model X.prog X.w) X.A (throw (.ref a) : Sem Flow) (SP X pins D') X.xe s4) X.xe { s' with heap := h3 } := by
          rw [hf]
          exact HandSPX.setFlight_upZ fl3 fun h4 hh4 up4 => wpAny_throw (tk _ _ ⟨a, B, sI, pins, σ', H', cls, d, rfl, J, nb, (up.trans up3).trans up4, .inr (.inr (by rw [hs]; exact hh4)), na, os, ag, w⟩)
        first
          | exact wpAny_bind (wpAny_pure (wpAny_bind last))
          | exact wpAny_bind last
      | @cons x c ts b₀ suite np' pos' hds2 l2 hc hsu r ih =>
        intro w
        obtain ⟨b, hb1, hyes, hno⟩ := w
        refine wpAny_handleBy_cons (codeAny_handlers_test ?_) (by intro q; cases q)
        have test : ∀ {Q : Value → Shared → Prop} {E : Value → Shared → Prop}, Q c { s' with heap := h3 } → wpAny (model X.prog X.w) (X.A.mark (some (.ref a))) (eval (.Name x np') X.env) Q E { s' with heap := h3 } := fun {Q E} q => by
          obtain ⟨hg, hdbg, hm | ⟨hm, hv, hnn⟩⟩ := hc
          · exact ld_glob (X := X.suite a ((a, oe3) :: (X.pn ++ pins))) S3 hg hm q hdbg
          · exact ld_blt (X := X.suite a ((a, oe3) :: (X.pn ++ pins))) S3 hg hm hv q hnn hdbg
        refine test ((PySem.W.exm_one (M := model X.prog X.w) (J3.kIn) LT hb1).here ?_)
        cases b with
        | true =>
          refine codeAny_handlers_suite_as (HandSPX.lands_againZ fl3 fun h4 fl4 up4 => ?_)
          have J4 : Inv X pins σ' H' { s' with heap := h4 } := J.landed nb fl4.1 ((up.trans up3).trans up4) os ag
          obtain ⟨oe4, vs4, he4, hz4, hd4⟩ := fl4.there
          have S4 := inv_hs J4 he4 hd4 na n0 nL np
          refine store_ok (X := X.suite a X.pn) (v := .ref a) S4 hN hi (.inl hln) rfl (fun s5 S5 => ?_) (.inr hln)
          refine wpAny_mono ((hsu a oe4).run pins s5 _ _ _ S5 (hyes rfl a oe4 na hz4 ⟨_, hd4⟩)) (fun f s6 hsp => ?_) (fun _ _ z => False.elim z)
          have ending : ∀ {σ6 : L2.St} {H6 : Hp} {Q : Shared → Prop}, Inv (X.suite a X.pn) pins σ6 H6 s6 → (∀ s7, Inv X pins (σ6.set i none) H6 s7 → Q s7) → wpAny (model X.prog X.w) X.A (do bindName X.env n .none; unbindBehindTheSuite X.env n pos') (fun _ s7 => Q s7) X.xe s6 := fun {σ6 H6 Q} S6 hq => gone_ok (inv_sh S6 ok) hN hi hln hq
          match f, hsp with
          | .next, ⟨σ6, H6, S6, q6⟩ => exact ending S6 fun s7 J7 => ⟨_, _, J7, q6⟩
          | .brk, ⟨σ6, H6, S6, q6⟩ => exact ending S6 fun s7 J7 => ⟨_, _, J7, q6⟩
          | .cont, ⟨σ6, H6, S6, q6⟩ => exact ending S6 fun s7 J7 => ⟨_, _, J7, q6⟩
          | .ret u, ⟨v6, σ6, H6, S6, r6, q6⟩ => exact ending S6 fun s7 J7 => ⟨_, _, _, J7, r6, q6⟩
        | false =>
          show wpAny _ X.A (handleBy (.ref a) X.env hds2) _ _ _
          exact ih (hno rfl)
    exact go hh w
  · match f, hsp with
    | .next, ⟨σ', H', J', q⟩ => exact wpAny_execs_nil ⟨σ', H', J'.ofTry ok, q⟩
    | .brk, ⟨σ', H', J', q⟩ => exact ⟨σ', H', J'.ofTry ok, q⟩
    | .cont, ⟨σ', H', J', q⟩ => exact ⟨σ', H', J'.ofTry ok, q⟩
    | .ret u, ⟨v, σ', H', J', r, q⟩ => exact ⟨v, σ', H', J'.ofTry ok, r, q⟩
end
end DL

set_option Elab.async false
set_option linter.all false
set_option maxRecDepth 100000
set_option maxHeartbeats 4000000
namespace DL
open PySem PySem.Spec PyProof.Rows L2 L2H
/-! ### a lambda is made -/
/-- the table at P: what the heap H knows of it -/
def TabG (H : Hp) (P bx : Addr) (q : Str) (ps : Array Value) : Prop := H P = some (.tbl ps) ∧ TriplesOk ps.toList ∧ ∀ (pos : Pos) (cv : Value), codeAmong pos ps.toList = some cv → ∃ c, cv = .ref c ∧ c ≠ bx ∧ H c = some (LamX.CodeO c q)
/-- behind the making: nothing, or the table and a new code object -/
def LamH (H H1 : Hp) (P bx c' : Addr) (q : Str) : Prop := H1 = H ∨ ∃ ps more, H P = some (.tbl ps) ∧ H c' = none ∧ H1 = upd (upd H P (.tbl (ps ++ more))) c' (LamX.CodeO c' q) ∧ TabG H1 P bx q (ps ++ more)
section
variable {X : Cx} {pins : List (Addr × Obj)} {σ : L2.St} {H : Hp} {s : Shared}
theorem lam_new {c P bx : Addr} {q : Str} {ps : Array Value} {params : Arguments} {body : Expr} {scope : Scope} {pos : Pos} {E : Value → Shared → Prop} {Q : Value → Shared → Prop} (I : Inv X pins σ H s) (TB : LamX.TabB X.base X.mg c P) (hcode : X.env.code = .ref c) (hq : X.env.qual ++ "<lambda>" = q) (hT : TabG H P bx q ps) (hbx : ∃ o, H bx = some o)
    (hdef : defaultsOf params X.env = ([], [])) (hfree : ∀ y ∈ scope.names, y.2 = .free → ∃ c, X.env.cells.lookup y.1 = some c)
    (h : ∀ (f c' : Addr) (pm ctv : Value) (H1 : Hp) (s' : Shared), Inv X pins σ H1 s' → LamH H H1 P bx c' q → s'.heap.get? f = some (PySem.W.kla_obj "<lambda>" q params body scope (cloFrom X.env.cells scope.names []) pm c' ctv) → H1 f = none → f ∉ frs X.stack → H1 c' = some (LamX.CodeO c' q) → c' ≠ bx → Q (.ref f) s') :
    wpAny (model X.prog X.w) X.A (eval (.Lambda params body scope pos) X.env) Q E s := by
  subst hq
  obtain ⟨hP, ht, ha⟩ := hT
  have bP : s.heap.BuiltinsAt X.mg P := TB.bm.keeps I.bk
  have hP' : s.heap.get? P = some { cls := .none, data := .fields ps } := I.hok P _ hP
  have nofr : ∀ f, s.heap.objs.size ≤ f → f ∉ frs X.stack := fun f hf z => (List.mem_cons.mp (I.stkSub _ z)).elim (fun e => absurd (Nat.lt_of_lt_of_le (show f < s.heap.objs.size from e ▸ I.lt) hf) (Nat.lt_irrefl _)) fun e => I.nofs hf e
  refine PySem.W.kla_eval hdef ?_
  cases hc : codeAmong pos ps.toList with
  | some cv =>
    obtain ⟨c', e, nb, hco⟩ := ha pos cv hc
    subst e
    refine PySem.W.kla_makeFunctionHit (mg := X.mg) (c := c) (P := P) (ps := ps) (closure_ok hfree) I.ok.glob (I.mod.glob.keeps I.bk) hcode (TB.code.keeps I.bk) hP' ht hc bP fun ctv h' tk hx hsz => ?_
    have J : Inv X pins σ H { s with heap := h'.push (PySem.W.kla_obj "<lambda>" (X.env.qual ++ "<lambda>") params body scope (cloFrom X.env.cells scope.names []) ((X.mg "__name__").getD .none) c' ctv), toks := tk } := I.kept fun b o e => Heap.get?_push_of_some _ (hx b o e)
    exact h h'.objs.size c' _ ctv H _ J (.inl rfl) (Heap.get?_push_size _ rfl) (I.hok.fresh hsz) (nofr _ hsz) hco nb
  | none =>
    refine PySem.W.kla_makeFunction (mg := X.mg) (c := c) (P := P) (ps := ps) (closure_ok hfree) I.ok.glob (I.mod.glob.keeps I.bk) hcode (TB.code.keeps I.bk) hP' ht hc TB.gP bP fun c' ctv h' tk hx hge hlt hrec htb => ?_
    obtain ⟨c2, oc, vs, t, e2, hoc, hd, hv⟩ := hrec
    cases e2
    have hsz : s.heap.objs.size ≤ h'.objs.size := Nat.le_trans hge (Nat.le_of_lt hlt)
    have nC : H c' = none := I.hok.fresh hge
    have nPc : P ≠ c' := ne_of_none hP nC
    have J := LamX.inv_table (t' := tk) (q := X.env.qual ++ "<lambda>") (more := #[rawInt pos.line, rawInt pos.col, .ref c']) (h' := h'.push (PySem.W.kla_obj "<lambda>" (X.env.qual ++ "<lambda>") params body scope (cloFrom X.env.cells scope.names []) ((X.mg "__name__").getD .none) c' ctv)) I hP
      (fun b o hb e => Heap.get?_push_of_some _ (hx b o hb e)) (Heap.get?_push_of_some _ htb) hge ⟨oc, vs, t, Heap.get?_push_of_some _ hoc, hd, hv⟩
    have eL : (ps ++ #[rawInt pos.line, rawInt pos.col, .ref c']).toList = ps.toList ++ [rawInt pos.line, rawInt pos.col, .ref c'] := by simp
    obtain ⟨ob, hob⟩ := hbx
    have cb : c' ≠ bx := Ne.symm (ne_of_none hob nC)
    refine h h'.objs.size c' _ ctv _ _ J (.inr ⟨ps, _, hP, nC, rfl, by rw [upd_ne nPc, upd_same], by rw [eL]; exact PySem.TriplesOk_snoc _ _ _ _ ht, fun p' cv hcv => ?_⟩) (Heap.get?_push_size _ rfl) ?_ (nofr _ hsz) upd_same cb
    · rw [eL] at hcv
      rcases LamX.among_app _ ht hcv with z | z
      · obtain ⟨c0, e1, e2, e3⟩ := ha p' cv z
        have n1 : c0 ≠ P := fun y => by rw [y, hP] at e3; exact LamX.codeO_ne ps (Option.some.inj e3).symm
        exact ⟨c0, e1, e2, by rw [upd_ne (ne_of_none e3 nC), upd_ne n1]; exact e3⟩
      · exact ⟨c', z, cb, upd_same⟩
    · rw [upd_ne (Nat.ne_of_gt hlt), upd_ne (Nat.ne_of_gt (Nat.lt_of_lt_of_le (Heap.lt_size hP') hsz))]
      exact I.hok.fresh hsz
end
section
variable {β : Type} {K : PySem.W.Frag} {g : G β} {H0 H H1 : Hp} {σ : L2.St} {s : S β} {P c' : Addr} {q : Str}
theorem Rel.lam (R : Rel K g H0 σ H s) (hp : (P, q) ∈ g.T) (nd : (g.T.map (·.1)).Nodup) (h : LamH H H1 P g.bx c' q) : Rel K g H0 σ H1 s := by
  rcases h with rfl | ⟨ps, more, hP, nC, rfl, tg⟩
  · exact R
  obtain ⟨nb, nF, n0, _⟩ := R.r0.tb _ hp
  have keep : ∀ a o, a ≠ P → H a = some o → upd (upd H P (.tbl (ps ++ more))) c' (LamX.CodeO c' q) a = some o := fun a o h1 h2 => by rw [upd_ne (ne_of_none h2 nC), upd_ne h1]; exact h2
  obtain ⟨ob, hb, ib⟩ := R.r0.it
  refine ⟨⟨fun a o e => keep a o (fun z => by rw [z, n0] at e; cases e) (R.r0.sub a o e), fun a o e => keep a o (fun z => by rw [z, nF] at e; cases e) (R.r0.frm a o e), R.r0.dis, R.r0.bxn, R.r0.bxF, ⟨ob, keep _ _ (Ne.symm nb) hb, ib⟩, fun p hp2 => ?_⟩, R.len, fun i k x h1 h2 => ?_, R.dist⟩
  · obtain ⟨m1, m2, m3, ps2, z, ok, cs⟩ := R.r0.tb p hp2
    by_cases e : p.1 = P
    · have : p = (P, q) := by
        obtain ⟨i, hi, ei⟩ := List.mem_iff_getElem.mp hp2
        obtain ⟨j, hj, ej⟩ := List.mem_iff_getElem.mp hp
        have : i = j := by
          refine (List.getElem_inj (i := i) (j := j) (h₀ := by simpa using hi) (h₁ := by simpa using hj) nd).mp ?_
          simp only [List.getElem_map, ei, ej]
          exact e
        subst this
        rw [← ei, ej]
      subst this
      exact ⟨m1, m2, m3, _, tg.1, tg.2.1, tg.2.2⟩
    · refine ⟨m1, m2, m3, ps2, keep _ _ e z, ok, fun pos cv hc => ?_⟩
      obtain ⟨c, e1, e2, e3⟩ := cs pos cv hc
      exact ⟨c, e1, e2, keep _ _ (fun y => by rw [y, hP] at e3; exact LamX.codeO_ne ps (Option.some.inj e3).symm) e3⟩
  · have sr := R.slot i k x h1 h2
    cases k with
    | no => trivial
    | v d => exact sr
    | o ds =>
      obtain ⟨p, vs, e1, e2, rest⟩ := sr
      exact ⟨p, vs, e1, keep p _ (fun z => by rw [z, hP] at e2; cases e2) e2, rest⟩
end
/-! ### a thunk: what a def knows of a lambda that it got -/
structure Thk (P : Program) (w : World) (K : PySem.W.Frag) (mg : Str → Option Value) (base : Heap) (k : Nat) (fv : Addr) (s0 : Shared) (Hs : Hp) (tl : Hp → VK → XK → Prop) : Prop where
  obj : ∃ oc od fd sl, s0.heap.get? fv = some ⟨oc, od, .func fd, sl⟩
  free : Hs fv = none
  mono : ∀ (H1 : Hp) (Q Q' : VK) (E E' : XK), (∀ v H, Q v H → Q' v H) → (∀ c d H, E c d H → E' c d H) → tl H1 Q E → tl H1 Q' E'
  run : ∀ (A : Around) (outer : List Env) (s1 : Shared) (H1 : Hp) (fs : List Addr) (Q : VK) (E : XK), Room k A → Env0 P w K mg base A outer s1 H1 → Un fs [] Hs H1 s0.heap s1.heap → fv ∉ fs → tl H1 Q E → codeAny (model P w) A (.call (.ref fv) ⟨[], []⟩) (CR (L2N.CX P w) outer P w H1 s1 Q E) s1
section
variable {P : Program} {w : World} {K : PySem.W.Frag} {mg : Str → Option Value} {base : Heap} {k : Nat} {fv : Addr} {s0 : Shared} {Hs : Hp} {tl : Hp → VK → XK → Prop}
/-- .. told of a later state -/
theorem Thk.later {s1 : Shared} {H1 : Hp} {fs : List Addr} (t : Thk P w K mg base k fv s0 Hs tl) (un : Un fs [] Hs H1 s0.heap s1.heap) (hn : fv ∉ fs) : Thk P w K mg base k fv s1 H1 tl := by
  obtain ⟨oc, od, fd, sl, e⟩ := t.obj
  refine ⟨⟨oc, od, fd, sl, un.keep fv _ e t.free hn (by simp)⟩, un.free fv _ e t.free (by simp), t.mono, fun A outer s2 H2 fs2 Q E hr e0 un2 hn2 q => ?_⟩
  exact t.run A outer s2 H2 (fs ++ fs2) Q E hr e0 ((un.mono (fun b hb => List.mem_append_left _ hb) (fun b hb => hb)).trans (un2.mono (fun b hb => List.mem_append_right _ hb) fun b hb => hb)) (by simp [hn, hn2]) q
/-- call(), in the def that got it in its first slot -/
def tActC (fv : Addr) (tl : Hp → VK → XK → Prop) (W : WX) : TE := fun σ H Q => σ[0]? = some (some (.ref fv)) ∧ tl H Q fun c d H' => W c d σ H'
theorem thk_act {q : Str} {scope : Scope} {f : Addr} {cd : Value} {A : Around} {outer : List Env} {s : Shared} {H : Hp} {E : XK} {N : List Str} {a : Str} {pn : List (Addr × Obj)} {xe : Value → Shared → Prop} {W : WX} {p1 p2 : Pos} (t : Thk P w K mg base k fv s H tl) (hn : fv ∉ frs outer) (hr : Room k (A.deeper (envOfC q scope s.heap.objs.size f cd)))
    (tk : L2N.Takes ((cxOf (L2N.CX P w) P w K mg base N q scope f cd A outer s H E).tr pn xe) W) (hN : N[0]? = some a) (hv : Vis scope a) (hd : (a == ("__debug__" : Str)) = false := by decide) (hcd : (a == ("__classdict__" : Str)) = false := by decide) :
    PE ((cxOf (L2N.CX P w) P w K mg base N q scope f cd A outer s H E).tr pn xe) (.Call (.Name a p1) [] [] p2) (tActC fv tl W) := by
  refine ⟨fun pins s1 σ H1 Q I h => ?_⟩
  obtain ⟨h0, ht⟩ := h
  refine wpAny_Call_Name_kw (thn ((pe_var (pos := p1) (i := 0) hN hv hd hcd).run pins s1 σ H1 (fun v H' => v = .ref fv ∧ H' = H1) I ⟨.ref fv, h0, rfl, rfl⟩) fun u s2 hh => ?_)
  obtain ⟨_, _, I2, rv, rfl, rfl⟩ := hh
  cases rv
  obtain ⟨oc, od, fd, sl, e⟩ := t.obj
  refine PySem.W.callWith_F0 ⟨_, _, _, _, I2.base.keep fv _ e t.free hn (fun z => nomatch (show fv ∈ ([] : List Addr) from z))⟩ ?_
  refine wpAny_call (codeAny_mono (t.run _ _ s2 _ (frs outer) Q (fun c d H' => W c d σ H') hr I2.env0 I2.base hn ht) fun r s' hq => ?_)
  match r, hq with
  | .error er, hq => exact L2N.passAt tk σ pins _ s2 er s' I2 hq
  | .ok (.ret u), hq => exact I2.after hq
  | .ok .next, hq => exact False.elim hq
  | .ok .brk, hq => exact False.elim hq
  | .ok .cont, hq => exact False.elim hq
end
end DL

set_option Elab.async false
set_option linter.all false
set_option maxRecDepth 100000
set_option maxHeartbeats 4000000
namespace DL
open PySem PySem.Spec PyProof.Rows L2 L2H
/-! ### a lambda's body, entered from anywhere -/
abbrev lamN (X : Cx) (A : Around) (outer : List Env) (s : Shared) (H : Hp) (E : XK) (scope : Scope) (f c' : Addr) : Cx :=
  (LamX.lamCx X A outer s H E scope f c').tr [] fun e s' => wpAny (model X.prog X.w) (A.deeper (LamX.lamEnv X scope s.heap.objs.size f c')) (leaving (LamX.lamEnv X scope s.heap.objs.size f c') e) (fun _ s'' => L2N.CX X.prog X.w outer H s E e s'') (fun e' s'' => L2N.CX X.prog X.w outer H s E e' s'') s'
section
variable {X : Cx} {pins : List (Addr × Obj)} {σ : L2.St} {H HZ : Hp} {s s1 : Shared}
theorem lam_inv {A : Around} {outer : List Env} {E : XK} {scope : Scope} {f c' : Addr} {h₁ : Heap} {tk : Nat} {fs : List Addr} (I : Inv X pins σ H s) (L : LamX.LamS X.env.scope scope) (e0 : Env0 X.prog X.w X.K X.mg X.base A outer s1 HZ) (hd : A.handled = none) (un : Un fs [] H HZ s.heap s1.heap)
    (hns : h₁.Ns s1.heap.objs.size fun y => ([] : List (Str × Value)).reverse.lookup y) (kp : ∀ b o, s1.heap.get? b = some o → h₁.get? b = some o) : Inv (lamN X A outer s1 HZ E scope f c') [] σ HZ { s1 with heap := h₁, toks := tk } := by
  have fr := L.has I.ok
  have sub : ∀ {y c}, (cloFrom X.env.cells scope.names []).lookup y = some c → X.env.cells.lookup y = some c := fun {y c} e => by
    rcases cloFrom_mem (PySem.mem_of_lookup e) with hm | ⟨h1, h2⟩
    · cases hm
    · obtain ⟨c1, hc⟩ := fr _ h1 rfl
      have hc : X.env.cells.lookup y = some c1 := hc
      have e2 : c = c1 := by rw [h2, hc] <;> rfl
      rw [e2]; exact hc
  have there : ∀ {y}, scope.names.lookup y = some .free → ∃ c, (cloFrom X.env.cells scope.names []).lookup y = some c := fun {y} hl => mem_lookup (cloFrom_has (cells := X.env.cells) (acc := []) (PySem.mem_of_lookup hl))
  have cell : ∀ {c : Addr} {v : Option Value}, H c = none → s.heap.IsCell c v → h₁.IsCell c v := fun {c v} n ⟨o, ho, dd⟩ => by
    obtain ⟨sl, q⟩ := un.any ho n (by simp)
    exact ⟨_, kp _ _ q, dd⟩
  have noex : ∀ b : Addr, b ∉ (lamN X A outer s1 HZ E scope f c').ex := fun b z => absurd (show b ∈ ([] : List Addr) from z) (by simp)
  have ok : (lamN X A outer s1 HZ E scope f c').Ok := {
    mod := e0.mod, kind := L.kind, glob := rfl, blt := rfl, above := Nat.le_refl _, inj := fun y z c e1 e2 => I.ok.inj y z c (sub e1) (sub e2),
    has := fun y hy => by
      have hy : scope.names.lookup y = some .cell ∨ scope.names.lookup y = some .free := hy
      rcases hy with hy | hy
      · exact absurd rfl (L.own _ (PySem.mem_of_lookup hy)).2
      · exact there hy
    cab := fun y c z _ => by
      have z : false = true := z
      cases z
    hd := fun _ => hd, frames := Around.frames_deeper e0.frames, stk := .inr ⟨rfl, rfl⟩, exf := fun b z => absurd z (noex b), bs := e0.bs, bsz := e0.bsz, noex := fun b _ _ => noex b, exfs := fun b z => absurd z (noex b), funs := e0.funs, frf := e0.frf }
  exact {
    ok := ok, os := rfl, bare := e0.bare, base := Un.kept kp,
    loc := ⟨_, hns, fun i y v e1 e2 e3 => by
      have e3 : Vis scope y := e3
      rcases e3 with k | k | k
      · exact absurd rfl (L.own _ (PySem.mem_of_lookup k)).1
      · exact absurd rfl (L.own _ (PySem.mem_of_lookup k)).2
      · obtain ⟨m, hn, hl⟩ := I.loc
        have vis : Vis X.env.scope y := (L.free _ (PySem.mem_of_lookup k) rfl).elim (fun k => .inr (.inl k)) fun k => .inr (.inr k)
        obtain ⟨w', r, q⟩ := hl i y v e1 e2 vis
        obtain ⟨c2, h2⟩ := there k
        refine ⟨w', r, .inr ⟨.inr k, c2, h2, ?_⟩⟩
        have c1 := sub h2
        rcases q with ⟨k', _⟩ | ⟨_, c3, e', z⟩
        · have k' : X.env.scope.names.lookup y = some .local := k'
          rcases L.free _ (PySem.mem_of_lookup k) rfl with k2 | k2 <;> rw [show X.env.scope.names.lookup y = _ from k2] at k' <;> cases k'
        · rw [c1] at e'
          cases e'
          exact cell (I.freeC y _ c1) z⟩
    cell := fun y c e => by
      obtain ⟨w', z⟩ := I.cell y c (sub e)
      exact ⟨w', cell (I.freeC y c (sub e)) z⟩
    free := e0.hok.fresh (Nat.le_refl _)
    freeC := fun y c e => by
      obtain ⟨v, o, ho, _⟩ := I.cell y c (sub e)
      exact un.free c o ho (I.freeC y c (sub e)) (by simp)
    pin := fun q hq => absurd (show q ∈ ([] : List (Addr × Obj)) ++ [] from hq) (by simp)
    hok := e0.hok.kept kp, len := I.len }
/-- the lambda as a thunk -/
theorem thk_of {β : Type} {g : G β} {mb : M β RV} {fv c' : Addr} {pm ctv : Value} {q : Str} {params : Arguments} {body : Expr} {scope : Scope} {k : Nat} (I : Inv X pins σ H s) (L : LamX.LamS X.env.scope scope) (hq : X.env.qual ++ "<lambda>" = q)
    (hf : s.heap.get? fv = some (PySem.W.kla_obj "<lambda>" q params body scope (cloFrom X.env.cells scope.names []) pm c' ctv)) (hfn : H fv = none)
    (hbind : bindArgs (PySem.W.kla_fn "<lambda>" q params body scope (cloFrom X.env.cells scope.names []) pm (.ref c') ctv) ⟨[], []⟩ = pure [])
    (hbody : ∀ (A : Around) (outer : List Env) (s : Shared) (H : Hp) (E : XK), Room k (A.deeper (LamX.lamEnv X scope s.heap.objs.size fv c')) → PEM (lamN X A outer s H E scope fv c') g (fun c d _ H => E c d H) body mb) :
    Thk X.prog X.w X.K X.mg X.base (k + 1) fv s H (fun H2 Q E => H2 c' = some (LamX.CodeO c' q) ∧ tE X.K X.mg g (fun c d _ H => E c d H) mb σ H2 Q) := by
  subst hq
  refine ⟨⟨_, _, _, _, hf⟩, hfn, fun H1 Q Q' E E' hQ hE ⟨z, H0, st, R, q⟩ => ⟨z, H0, st, R, Out.on_imp q (fun r s' q v H1 H2 e R' rr ap => hQ _ _ (q v H1 H2 e R' rr ap)) fun x s' q c d H1 H2 e R' Xr => hE _ _ _ (q c d H1 H2 e R' Xr)⟩, fun A outer s2 H2 fs Q E hr e0 un hn ⟨hc, ht⟩ => ?_⟩
  have of1 := un.keep fv _ hf hfn hn (by simp)
  obtain ⟨⟨oc, vs, t, hoc, hdc, hvc⟩, _, _⟩ := e0.hok c' _ hc
  refine PySem.W.kla_callFunE hr.depth of1 rfl L.co L.gen rfl ⟨c', oc, vs, t, rfl, hoc, hdc, hvc⟩ ?_
  rw [hbind]
  refine wpAny_pure (wpAny_newFunctionEnv (fun y hy => (L.own y hy).2) (fun y hy => absurd hy (by simp)) (fun h₁ hns hsb => ⟨(e0.mod.nolimit.keeps fun b o e => (e0.bs b o e).1).fresh _ hsb, ?_⟩) L.kind)
  show codeAny _ _ (.expr body (LamX.lamEnv X scope s2.heap.objs.size fv c')) _ _
  have kp : ∀ b o, s2.heap.get? b = some o → h₁.get? b = some o := fun b o e => hsb.extBut b o (Nat.ne_of_lt (Heap.lt_size e)) (Heap.get?_push_of_some _ e)
  have J : Inv (lamN X A outer s2 H2 E scope fv c') [] σ H2 { s2 with heap := h₁, toks := s2.toks + ([] : List (Str × Value)).length } := lam_inv I L e0 hr.hd un hns kp
  refine PySem.W.kla_codeExpr (wpAny_mono ((hbody A outer s2 H2 E (hr.deeper _)).run [] _ _ H2 Q J ht) (fun v s' hq => ?_) fun e s' hq => hq)
  obtain ⟨w', H', J', rv, q⟩ := hq
  exact ⟨w', H', J'.os, J'.bare, J'.base, J'.hok, rv, q⟩
end
/-! ### a suite: what it makes of the exception -/
structure HotS {β : Type} (X : Cx) (g : G β) (a : Addr) (oe : Obj) : Prop where
  hh : X.A.handled = some (.ref a)
  ctx : ∃ vs : Array Value, oe.data = .fields vs ∧ vs[2]? = some .none
  it : ∀ H0 b o, g.itp H0 b o → H0 a = some (.frz oe (.own 0))
def tSu (K : PySem.W.Frag) (mg : Str → Option Value) (m : M Unit Fl) (a : Addr) (oe : Obj) : TS := fun D' σ H => ∃ g : G Unit, (∀ H0 b o, g.itp H0 b o → H0 a = some (.frz oe (.own 0))) ∧ (∃ vs : Array Value, oe.data = .fields vs ∧ vs[2]? = some .none) ∧ tS K mg g W0 m D' σ H
theorem su_mk {X : Cx} {st : List Stmt} {m : M Unit Fl} (h : ∀ (a : Addr) (oe : Obj) (g : G Unit), HotS (X.suite a X.pn) g a oe → PSSM (X.suite a X.pn) g W0 st m) (a : Addr) (oe : Obj) : PSs (X.suite a X.pn) st (tSu X.K X.mg m a oe) :=
  ⟨fun pins s σ H D' I ⟨g, h1, h2, q⟩ => (h a oe g ⟨rfl, h2, h1⟩).run pins s σ H D' I q⟩
theorem takesW0 {X : Cx} : L2N.Takes X W0 := fun _ _ x => by
  obtain ⟨_, _, _, _, _, _, _, _, _, _, _, _, _, _, _, _, z⟩ := x
  exact z.elim
section
variable {X : Cx} {k : Nat} {f : Addr} {fd : FuncData} {ps : List Str} {sp : Sp} {E : L2.St → XK} {x : Str} {p pos : Pos} {e : Expr} {es : List Expr} {t : TA}
theorem pe_callS_ (F : FnG X.prog X.w X.K X.mg X.base k f fd ps sp) (hr : RoomH k X.A) (hg : Gl X x) (hm : X.mg x = some (.ref f)) (hk : PySem.W.keepIn X.K (.ref f) = true) (hb : Binds X.K fd ps []) (hx : ∀ σ, PassesAt (L2N.CX X.prog X.w) X σ (E σ)) (ha : PA X (e :: es) t)
    (hdb : (x == ("__debug__" : Str)) = false := by decide) (he : starEach (e :: es) X.env = (false, eval e X.env) :: starEach es X.env := by rfl) (hpl : (backTo pos (starEach es X.env)).any (·.1) = false := by rfl) :
    PE X (.Call (.Name x p) (e :: es) [] pos) (fun σ H Q => t σ H fun vs H1 => (∃ x1 oe, HotA X.A x1 oe H1) ∧ vs.length = ps.length ∧ sp vs H1 Q (E σ)) := by
  refine ⟨fun pins s σ H Q I h => wpAny_Call_Name_kw (ld_glob I hg hm (PySem.W.callWith_K (h₀ := X.base) I.ok.mod.kin hk (thn (ha.run pos pins s σ H _ I h) fun us s1 hh => ?_) he hpl) hdb)⟩
  obtain ⟨vs, H1, I1, r, ⟨x1, oe, hot⟩, hl, q⟩ := hh
  have bd := hb s1 us I1.kIn (by rw [List.append_nil, ← r.length]; exact hl)
  rw [List.append_nil] at bd
  refine ⟨I1.kIn, wpAny_call (codeAny_mono (F X.A X.stack s1 H1 us vs Q (E σ) x1 oe hr hot I1.env0 bd r hl q) fun r s' hq => ?_)⟩
  match r, hq with
  | .error er, hq => exact hx σ pins H1 s1 er s' I1 hq
  | .ok (.ret u), hq => exact I1.after hq
  | .ok .next, hq => exact False.elim hq
  | .ok .brk, hq => exact False.elim hq
  | .ok .cont, hq => exact False.elim hq
end
section
variable {β : Type} {X : Cx} {g : G β} {W : WX} {e : Expr} {es : List Expr} {ms : M β (List Arg)} {pos p : Pos} {x : Str} {st : Stmt} {ps : List Str} {k k' : Nat} {a : Addr} {oe : Obj}
theorem e_cPS {n : Nat} {md : DefM Unit} (F : Dh X.prog X.w X.K X.mg X.base k x st ps md) (hr : RoomH k' X.A) (hs : HotS X g a oe) (tk : L2N.Takes X W) (ha : PABM X g W (e :: es) ms) (hk : k ≤ k' := by decide) (hg : Gl X x := by rfl)
    (hdb : (x == ("__debug__" : Str)) = false := by decide) (he : starEach (e :: es) X.env = (false, eval e X.env) :: starEach es X.env := by rfl) (hpl : (backTo pos (starEach es X.env)).any (·.1) = false := by rfl) (hn : ps.length = n := by rfl) : PEM X g W (.Call (.Name x p) (e :: es) [] pos) (callP n md ms) := by
  subst hn
  obtain ⟨f, fd, FD, gl, F, bn⟩ := F
  refine PE.imp (pe_callS_ (E := fun σ c d H => W c d σ H) F (hr.mono hk) hg gl FD.kp bn (fun σ => L2N.passAt tk σ) ha hdb he hpl) fun σ H Q h => ?_
  obtain ⟨H0, s, R, q⟩ := callP_len h
  refine ⟨H0, s, R, Out.on_imp q (fun as s1 q vs H1 H2 e1 R1 ra => ⟨⟨a, oe, hs.hh, hs.ctx, ?_⟩, q vs H1 H2 e1 R1 ra⟩) fun _ _ q => q⟩
  obtain ⟨o, _, hi⟩ := R1.r0.it
  exact R1.r0.sub _ _ (hs.it _ _ _ hi)
end
end DL

set_option Elab.async false
set_option linter.all false
set_option maxRecDepth 100000
set_option maxHeartbeats 4000000
namespace DL
open PySem PySem.Spec PyProof.Rows L2 L2H
/-! ### a def that calls what it got and tells the exception -/
def caughtT (sm : List (Str × M Unit Fl)) (x : Exc) : Option D := (sm.lookup x.cls).bind fun m => match m ⟨[.no, .v (.exc x.cls x.fs)], ()⟩ with
  | .ok (.rt (.v d)) _ => some d
  | _ => none
/-- the module's names of the classes xs, their places among the clauses ys -/
structure XM (K : PySem.W.Frag) (mg : Str → Option Value) (xs ys : List Str) : Prop where
  glo : ∀ c ∈ xs, mg c = some (.ref (He.ga K c))
  gly : ∀ y ∈ ys, mg y = some (.ref (He.ga K y))
  exm : ∀ c ∈ xs, ∀ y ∈ ys, PySem.W.exmOne K (.ref (He.ga K c)) (.ref (He.ga K y)) = some (decide (c = y))
def CaughtP (K : PySem.W.Frag) (mg : Str → Option Value) (xs : List Str) (sm : List (Str × M Unit Fl)) (c : Value) (dd : Option Addr) (H1 : Hp) (Q : VK) : Prop :=
  ∃ (bx : Addr) (o : HO) (H0 : Hp) (x : Exc) (t : D), Ex H0 H1 ∧ H0 bx = none ∧ H1 bx = some o ∧ XRep K mg bx H0 H1 c dd x ∧ x.cls ∈ xs ∧ caughtT sm x = some t ∧ Fin K bx H0 H1 (.v t) Q
abbrev clauses (K : PySem.W.Frag) (mg : Str → Option Value) (sm : List (Str × M Unit Fl)) : List (Value × (Addr → Obj → TS)) := sm.map fun p => (Value.ref (He.ga K p.1), tSu K mg p.2)
theorem suite_run {K : PySem.W.Frag} {mg : Str → Option Value} {m : M Unit Fl} {x : Exc} {t : D} {a bx : Addr} {oe : Obj} {o : HO} {H0 H1 : Hp} {c : Value} {dd : Option Addr} {fv : Addr} {D' : Ends} (sub : Ex H0 H1) (bn : H0 bx = none) (hb : H1 bx = some o) (hx : XRep K mg bx H0 H1 c dd x) (hc : mg x.cls = some (.ref (He.ga K x.cls)))
    (na : H1 a = none) (hz : L2N.Zn c dd oe) (hf : ∃ vs, oe.data = .fields vs) (hm : (match m ⟨[.no, .v (.exc x.cls x.fs)], ()⟩ with | .ok (.rt (.v d)) _ => some d | _ => none) = some t) (fin : Fin K bx H0 H1 (.v t) D'.rt) :
    tSu K mg m a oe (endA D' 1) [some (.ref fv), some (.ref a)] (upd H1 a (.frz oe (.own 0))) := by
  obtain ⟨vs, hd⟩ := hf
  obtain ⟨z1, z2, z3⟩ := hz
  have ctx : vs[2]? = some .none := z3 vs hd
  have nab : bx ≠ a := ne_of_none hb na
  have na0 : H0 a = none := sub.back na
  have s0 : Ex H0 (upd H0 a (.frz oe (.own 0))) := Ex.new na0
  have s1 : Ex H1 (upd H1 a (.frz oe (.own 0))) := Ex.new na
  have sub' : Ex (upd H0 a (.frz oe (.own 0))) (upd H1 a (.frz oe (.own 0))) := fun b u e => by
    by_cases h : b = a
    · rw [h, upd_same] at e ⊢; exact e
    · rw [upd_ne h] at e ⊢; exact sub b u e
  obtain ⟨k1, d, fs, k2, k3, k4, k5⟩ := hx
  have ec : c = .ref (He.ga K x.cls) := by rw [hc] at k1; exact (Option.some.inj k1).symm
  subst ec
  have rep : Rep K bx (upd H0 a (.frz oe (.own 0))) (.ref a) (.exc x.cls x.fs) := .exc upd_same z1 (by rw [z2, k2]) hd ctx (s0 _ _ k3) k4 fun i v e h h' => (k5.get i v e h h').mono s0
  refine ⟨⟨bx, fun H _ u => u = o ∧ H a = some (.frz oe (.own 0)), fun e h => ⟨h.1, e _ _ h.2⟩, frameOf bx (upd H0 a (.frz oe (.own 0))) (upd H1 a (.frz oe (.own 0))), []⟩, fun H b u h => h.2, ⟨vs, hd, ctx⟩, upd H0 a (.frz oe (.own 0)), ⟨[.no, .v (.exc x.cls x.fs)], ()⟩, ⟨⟨sub', frameOf_sub, frameOf_dis, ?_, frameOf_bx, ⟨o, s1 _ _ hb, rfl, upd_same⟩, TabsR.nil⟩, rfl, fun i k y h1 h2 => ?_, fun i j es es' p h1 => ?_⟩, ?_⟩
  · show upd H0 a _ bx = none
    rw [upd_ne nab]; exact bn
  · match i, h1, h2 with
    | 0, h1, h2 => cases h1; trivial
    | 1, h1, h2 => cases h1; cases h2; exact ⟨_, rfl, rep⟩
  · match i, h1 with
    | 0, h1 => cases h1
    | 1, h1 => cases h1
  · revert hm
    cases m ⟨[.no, .v (.exc x.cls x.fs)], ()⟩ with
    | bad => exact fun h => by cases h
    | exc _ _ => exact fun h => by cases h
    | ok f s' =>
      cases f with
      | nx => exact fun h => by cases h
      | bk => exact fun h => by cases h
      | ct => exact fun h => by cases h
      | rt r =>
        cases r with
        | o _ => exact fun h => by cases h
        | v e =>
          intro h
          cases h
          intro v σ' H0' H' e0 R rr
          have R0 := R.r0
          refine fin v H0' H' ⟨s0.trans e0, fun b u q => ?_, R0.sub, fun b u q => ?_⟩ rr
          · by_cases hbx : b = bx
            · obtain ⟨o', q1, q2, _⟩ := R0.it
              have q2 : o' = o := q2
              have q1 : H' bx = some o' := q1
              rw [hbx, hb] at q
              cases q
              rw [hbx, q1, q2]
            · exact frameOf_keep sub' e0 R0.sub R0.frm b u hbx (s1 b u q)
          · cases q1 : H1 b with
            | none => exact .inr rfl
            | some y =>
              refine .inl ?_
              have hba : b ≠ a := ne_of_none q1 na
              by_cases hbx : b = bx
              · have := R0.bxn
                have this : H0' bx = none := this
                rw [← hbx, q] at this; cases this
              · cases q0 : H0 b with
                | some y' =>
                  have e1 := (s0.trans e0) b y' q0
                  rw [q] at e1; cases e1; rfl
                | none =>
                  have := R0.dis b y (by show frameOf bx _ _ b = some y; rw [frameOf_at hbx (by rw [upd_ne hba]; exact q0), upd_ne hba]; exact q1)
                  rw [q] at this; cases this
theorem caught_run {K : PySem.W.Frag} {mg : Str → Option Value} {xs : List Str} {c : Value} {dd : Option Addr} {H1 : Hp} {fv : Addr} {D' : Ends} {Wout : WX} : ∀ {sm : List (Str × M Unit Fl)}, XM K mg xs (sm.map (·.1)) → CaughtP K mg xs sm c dd H1 D'.rt → wA K 1 Wout D' (clauses K mg sm) c dd [some (.ref fv), none] H1
  | [], _, ⟨_, _, _, _, _, _, _, _, _, _, h, _⟩ => by cases h
  | (y, m) :: sm, T, ⟨bx, o, H0, x, t, sub, bn, hb, hx, hmem, ht, fin⟩ => by
    have hc := T.glo _ hmem
    have ec : c = .ref (He.ga K x.cls) := by
      have := hx.1
      rw [hc] at this; exact (Option.some.inj this).symm
    refine ⟨decide (x.cls = y), ?_, fun h a oe na hz hf => ?_, fun h => caught_run ⟨T.glo, fun z hz => T.gly z (List.mem_cons_of_mem _ hz), fun c' hc' z hz => T.exm c' hc' z (List.mem_cons_of_mem _ hz)⟩ ⟨bx, o, H0, x, t, sub, bn, hb, hx, hmem, ?_, fin⟩⟩
    · rw [ec]; exact T.exm _ hmem y (by simp)
    · have e : x.cls = y := of_decide_eq_true h
      unfold caughtT at ht
      rw [List.lookup_cons, e, beq_self_eq_true, ← e] at ht
      exact suite_run sub bn hb hx hc na hz hf ht fin
    · have e : x.cls ≠ y := of_decide_eq_false h
      unfold caughtT at ht ⊢
      rw [List.lookup_cons, beq_false_of_ne e] at ht
      exact ht
/-- what is asked where it is called -/
def TriedP (K : PySem.W.Frag) (mg : Str → Option Value) (xs : List Str) (sm : List (Str × M Unit Fl)) (tl : Hp → VK → XK → Prop) (H : Hp) (Q : VK) : Prop :=
  tl H (fun v H1 => ∀ p, H1 p = none → Q (.ref p) (upd H1 p (.tup [.str "told", v]))) fun c dd H1 => CaughtP K mg xs sm c dd H1 Q
def Dt (P : Program) (w : World) (K : PySem.W.Frag) (mg : Str → Option Value) (base : Heap) (kt : Nat) (x : Str) (st : Stmt) (xs : List Str) (sm : List (Str × M Unit Fl)) : Prop :=
  ∃ f fd, FunD K x x (defArgs st) (defBody st) (defScope st) [] [] f fd ∧ mg x = some (.ref f) ∧ Binds K fd ["call"] [] ∧ ∀ (A : Around) (outer : List Env) (s : Shared) (H : Hp) (fv : Addr) (Q : VK) (E : XK) (tl : Hp → VK → XK → Prop), Room (kt + 1) A → Env0 P w K mg base A outer s H → Thk P w K mg base kt fv s H tl → fv ∉ frs outer →
    TriedP K mg xs sm tl H Q → codeAny (model P w) A (.call (.ref f) ⟨[.ref fv], []⟩) (CR (L2N.CX P w) outer P w H s Q E) s
def tTry (K : PySem.W.Frag) (mg : Str → Option Value) (sm : List (Str × M Unit Fl)) (fv : Addr) (tl : Hp → VK → XK → Prop) : TS := fun D' σ H => tRet (tTup (tCons (tC (.str "told")) (tCons (tActC fv tl (wA K 1 W0 D' (clauses K mg sm))) tNil))) D' σ H
theorem dt_mk {P : Program} {w : World} {K : PySem.W.Frag} {mg : Str → Option Value} {base : Heap} {kt : Nat} {x : Str} {st : Stmt} {xs : List Str} {sm : List (Str × M Unit Fl)} (F : Fd K mg x st) (S : FnScope ["call", "e"] ["call"] (defScope st)) (T : XM K mg xs (sm.map (·.1)))
    (bn : ∀ (kV doc pm : Value) (an : Option Addr) (cdv ct : Value) (us : List Value), us.length = 1 → bindArgs (PySem.W.fnOf x x (defArgs st) (defBody st) (defScope st) .none kV doc pm an cdv ct) ⟨us, []⟩ = pure ([("call" : Str)].zip us))
    (hb : ∀ (f : Addr) (cdv : Value) (A : Around) (outer : List Env) (s : Shared) (H : Hp) (E : XK) (fv : Addr) (tl : Hp → VK → XK → Prop), Room kt (A.deeper (envOfC x (defScope st) s.heap.objs.size f cdv)) →
      (∀ (W : WX) (pn : List (Addr × Obj)) (xe : Value → Shared → Prop) (p1 p2 : Pos), L2N.Takes ((cxOf (L2N.CX P w) P w K mg base ["call", "e"] x (defScope st) f cdv A outer s H E).tr pn xe) W → PE ((cxOf (L2N.CX P w) P w K mg base ["call", "e"] x (defScope st) f cdv A outer s H E).tr pn xe) (.Call (.Name "call" p1) [] [] p2) (tActC fv tl W)) →
      PSs (cxOf (L2N.CX P w) P w K mg base ["call", "e"] x (defScope st) f cdv A outer s H E) (defBody st) (tTry K mg sm fv tl)) (hv : Vis (defScope st) "call" := by exact Or.inl rfl) : Dt P w K mg base kt x st xs sm := by
  obtain ⟨f, fd, FD, gl⟩ := F
  refine ⟨f, fd, FD, gl, FD.bindsN (ps := [("call" : Str)]) bn, fun A outer s H fv Q E tl hr e0 t hn ht => ?_⟩
  have bd := FD.bindsN (ps := [("call" : Str)]) bn s [.ref fv] (e0.mod.kin.keeps fun b o e => (e0.bs b o e).1) rfl
  obtain ⟨oc, od, dV, kV, doc, pm, an, cdv, ct, osl, rfl, lk, hcd, _, _⟩ := FD.ex
  refine LamX.run_ofS (N := ["call", "e"]) (ps := ["call"]) (us := [.ref fv]) (vs := [.ref fv]) lk hcd S hr e0 bd (.cons rfl .nil) rfl fun hr' => ⟨_, hb f cdv A outer s H E fv tl hr' fun W pn xe p1 p2 tk => thk_act t hn hr' tk rfl hv, ?_⟩
  refine ⟨rfl, ?_⟩
  refine t.mono _ _ _ _ _ (fun v H1 q => ?_) (fun c dd H1 h => caught_run (D' := { nx := fun _ H' => Q .non H', rt := Q }) T h) ht
  exact ⟨(by show 2 ≤ sizeLine; rw [sizeLine_eq]; omega), q⟩
end DL

set_option Elab.async false
set_option linter.all false
set_option maxRecDepth 100000
set_option maxHeartbeats 4000000
namespace DL
open PySem PySem.Spec PyProof.Rows L2 L2H
/-! ### tried(lambda: ..) -/
structure Mkr {β : Type} (X : Cx) (g : G β) (c P : Addr) (q : Str) : Prop where
  tb : LamX.TabB X.base X.mg c P
  code : X.env.code = .ref c
  hq : X.env.qual ++ "<lambda>" = q
  mem : (P, q) ∈ g.T
  nd : (g.T.map (·.1)).Nodup
def triedM {β : Type} (xs : List Str) (sm : List (Str × M Unit Fl)) (mb : M β RV) : M β RV := fun s => match mb s with
  | .ok r s' => .ok (.v (.tup [.str "told", r.d])) s'
  | .exc x s' => if x.cls ∈ xs then opt ((caughtT sm x).map RV.v) s' else .bad
  | .bad => .bad
section
variable {β : Type} {K : PySem.W.Frag} {mg : Str → Option Value} {g : G β} {W : WX} {H0 H : Hp} {σ : L2.St} {S : β}
/-- what the reading asks, from the mirror -/
theorem tried_ask {xs : List Str} {sm : List (Str × M Unit Fl)} {mb : M β RV} {s : DL.S β} {H0 H : Hp} {Q : VK} {k : RV → DL.S β → Prop} {e : Exc → DL.S β → Prop} (R : Rel K g H0 σ H s) (h : (triedM xs sm mb s).on k e)
    (hk : ∀ d s', k (.v d) s' → ∀ v H0' H', Ex H0 H0' → Rel K g H0' σ H' s' → Rep K g.bx H0' v d → Q v H') : tE K mg g (fun c d _ H => CaughtP K mg xs sm c d H Q) mb σ H (fun v H1 => ∀ p, H1 p = none → Q (.ref p) (upd H1 p (.tup [.str "told", v]))) := by
  refine tE_of_tD ⟨H0, s, R, ?_⟩
  unfold triedM at h
  revert h
  cases mb s with
  | bad => exact fun h => h
  | ok r s' =>
    intro h v H1 H2 e1 R1 rr p hp
    refine Fin.tup (ds := [.str "told", r.d]) (fin_of2 R1 fun u H3 H4 e2 R2 ru _ => hk _ _ h u H3 H4 (e1.trans e2) R2 ru) R1.r0.sub (.cons .str (.one rr)) hp
  | exc x s' =>
    intro h c dd H1 H2 e1 R1 Xr
    by_cases hm : x.cls ∈ xs
    · have h : ((if x.cls ∈ xs then opt ((caughtT sm x).map RV.v) s' else .bad : Out (DL.S β) RV)).on k e := h
      rw [if_pos hm, on_opt] at h
      obtain ⟨r, er, h⟩ := h
      cases ht : caughtT sm x with
      | none => rw [ht] at er; cases er
      | some t =>
        rw [ht] at er
        cases er
        obtain ⟨o, hb, _⟩ := R1.r0.it
        exact ⟨g.bx, o, H1, x, t, R1.r0.sub, R1.r0.bxn, hb, Xr, hm, ht, fin_of2 R1 fun u H3 H4 e2 R2 ru _ => hk _ _ h u H3 H4 (e1.trans e2) R2 ru⟩
    · have h : ((if x.cls ∈ xs then opt ((caughtT sm x).map RV.v) s' else .bad : Out (DL.S β) RV)).on k e := h
      rw [if_neg hm] at h; exact h.elim
end
section
variable {β : Type} {X : Cx} {g : G β} {W : WX} {c P : Addr} {q x : Str} {st : Stmt} {xs : List Str} {sm : List (Str × M Unit Fl)} {kt k' : Nat} {params : Arguments} {body e2 : Expr} {scope : Scope} {lpos p pos : Pos} {mb md : M β RV}
theorem tabG {K : PySem.W.Frag} {H0 H : Hp} {σ : L2.St} {s : S β} (R : Rel K g H0 σ H s) (hm : (P, q) ∈ g.T) : ∃ ps, TabG H P g.bx q ps := by
  obtain ⟨_, _, _, ps, h1, h2, h3⟩ := R.r0.tb _ hm
  exact ⟨ps, h1, h2, h3⟩
theorem e_tried (F : Dt X.prog X.w X.K X.mg X.base (kt + 1) x st xs sm) (hr : Room k' X.A) (M : Mkr X g c P q) (tk : L2N.Takes X W) (L : LamX.LamS X.env.scope scope)
    (hbody : ∀ (fv c' : Addr) (A : Around) (outer : List Env) (s : Shared) (H : Hp) (E : XK), Room kt (A.deeper (LamX.lamEnv X scope s.heap.objs.size fv c')) → PEM (lamN X A outer s H E scope fv c') g (fun c d _ H => E c d H) body mb)
    (hk : kt + 2 ≤ k' := by decide) (hg : Gl X x := by rfl) (hdb : (x == ("__debug__" : Str)) = false := by decide) (hdef : defaultsOf params X.env = ([], []) := by rfl) (hbind : ∀ (q : Str) (cl : List (Str × Addr)) (pm cv ctv : Value), bindArgs (PySem.W.kla_fn "<lambda>" q params body scope cl pm cv ctv) ⟨[], []⟩ = pure [] := by intros; rfl)
    (hst : starEach [.Lambda params body scope lpos] X.env = [(false, eval (.Lambda params body scope lpos) X.env)] := by rfl) : PEM X g W (.Call (.Name x p) [.Lambda params body scope lpos] [] pos) (triedM xs sm mb) := by
  obtain ⟨f, fd, FD, gl, bn, run⟩ := F
  refine ⟨fun pins s σ H Q I h => ?_⟩
  obtain ⟨H0, st', R, h⟩ := h
  obtain ⟨ps, tg⟩ := tabG R M.mem
  obtain ⟨ob, hob, _⟩ := R.r0.it
  refine wpAny_Call_Name_kw (ld_glob I hg gl ?_ hdb)
  refine PySem.W.callWith_K (h₀ := X.base) I.ok.mod.kin FD.kp ?_ (by rfl) (by rfl)
  rw [hst]
  refine Calls.spliced_cons (lam_new I M.tb M.code M.hq tg ⟨ob, hob⟩ hdef (L.has I.ok) fun fv c' pm ctv H1 s1 I1 hl hf hfn hfr hco nbx => Calls.spliced_nil ⟨I1.kIn, ?_⟩)
  have R1 := R.lam M.mem M.nd hl
  have T := thk_of (g := g) (mb := mb) (k := kt) I1 L M.hq hf hfn (hbind _ _ _ _ _) fun A outer s H E hr2 => hbody fv c' A outer s H E hr2
  refine wpAny_call (codeAny_mono (run X.A X.stack s1 H1 fv Q (fun c d H => W c d σ H) _ (hr.mono hk) I1.env0 T hfr ⟨hco, tried_ask R1 h fun d s' q v H2 H3 e R2 rr => q v H2 H3 e R2 rr trivial⟩) fun r s' hq => ?_)
  match r, hq with
  | .error er, hq => exact L2N.passAt tk σ pins _ s1 er s' I1 hq
  | .ok (.ret u), hq => exact I1.after hq
  | .ok .next, hq => exact False.elim hq
  | .ok .brk, hq => exact False.elim hq
  | .ok .cont, hq => exact False.elim hq
/-! ### refused(lambda: .., due): like(tried(call), due) -/
def Dr (P : Program) (w : World) (K : PySem.W.Frag) (mg : Str → Option Value) (base : Heap) (kt kr : Nat) (x : Str) (st : Stmt) (xs : List Str) (sm : List (Str × M Unit Fl)) (mL : DefM Unit) : Prop :=
  ∃ f fd, FunD K x x (defArgs st) (defBody st) (defScope st) [] [] f fd ∧ mg x = some (.ref f) ∧ ∀ (A : Around) (outer : List Env) (s : Shared) (H : Hp) (fv : Addr) (vd : V) (ud : Value) (Q : VK) (E : XK) (tl : Hp → VK → XK → Prop), Room (kr + 1) A → Env0 P w K mg base A outer s H → Thk P w K mg base kt fv s H tl → fv ∉ frs outer → RelV vd ud →
    TriedP K mg xs sm tl H (fun t H1 => spOf K mg 2 mL [t, vd] H1 Q E) → codeAny (model P w) A (.call (.ref f) ⟨[.ref fv, ud], []⟩) (CR (L2N.CX P w) outer P w H s Q E) s
/-- tried(call), in the def that got call -/
def tTr1 (K : PySem.W.Frag) (mg : Str → Option Value) (xs : List Str) (sm : List (Str × M Unit Fl)) (fv : Addr) (tl : Hp → VK → XK → Prop) : TE := fun σ H Q => σ[0]? = some (some (.ref fv)) ∧ TriedP K mg xs sm tl H Q
theorem pe_tried1 {P : Program} {w : World} {K : PySem.W.Frag} {mg : Str → Option Value} {base : Heap} {q y : Str} {sty : Stmt} {scope : Scope} {f : Addr} {cd : Value} {A : Around} {outer : List Env} {s : Shared} {H : Hp} {E : XK} {N : List Str} {a : Str} {p1 p2 pos : Pos} {fv : Addr} {tl : Hp → VK → XK → Prop} {k : Nat}
    (F : Dt P w K mg base kt y sty xs sm) (t : Thk P w K mg base kt fv s H tl) (hn : fv ∉ frs outer) (hr : Room k (A.deeper (envOfC q scope s.heap.objs.size f cd))) (hk : kt + 1 ≤ k) (hN : N[0]? = some a) (hv : Vis scope a) (hg : Gl (cxOf (L2N.CX P w) P w K mg base N q scope f cd A outer s H E) y)
    (hd : (a == ("__debug__" : Str)) = false := by decide) (hcd : (a == ("__classdict__" : Str)) = false := by decide) (hdb : (y == ("__debug__" : Str)) = false := by decide)
    (he : starEach [.Name a p1] (cxOf (L2N.CX P w) P w K mg base N q scope f cd A outer s H E).env = (false, eval (.Name a p1) (cxOf (L2N.CX P w) P w K mg base N q scope f cd A outer s H E).env) :: starEach [] (cxOf (L2N.CX P w) P w K mg base N q scope f cd A outer s H E).env := by rfl)
    (hpl : (backTo pos (starEach [] (cxOf (L2N.CX P w) P w K mg base N q scope f cd A outer s H E).env)).any (·.1) = false := by rfl) :
    PE (cxOf (L2N.CX P w) P w K mg base N q scope f cd A outer s H E) (.Call (.Name y p2) [.Name a p1] [] pos) (tTr1 K mg xs sm fv tl) := by
  obtain ⟨fy, fdy, FD, gl, bn, run⟩ := F
  refine ⟨fun pins s1 σ H1 Q I h => ?_⟩
  obtain ⟨h0, ht⟩ := h
  refine wpAny_Call_Name_kw (ld_glob I hg gl ?_ hdb)
  refine PySem.W.callWith_K (h₀ := base) I.ok.mod.kin FD.kp (thn ((pa_cons (pe_var (pos := p1) (i := 0) hN hv hd hcd) pa_nil he).run pos pins s1 σ H1 (fun vs H' => vs = [V.ref fv] ∧ H' = H1) I ⟨.ref fv, h0, rfl, rfl⟩) fun us s2 hh => ?_) he hpl
  obtain ⟨_, _, I2, rv, rfl, rfl⟩ := hh
  refine ⟨I2.kIn, ?_⟩
  cases rv with
  | cons r1 r2 =>
    cases r1
    cases r2
    obtain ⟨oc, od, fdv, sl, e⟩ := t.obj
    have T2 := t.later I2.base hn
    have hn2 : fv ∉ frs (cxOf (L2N.CX P w) P w K mg base N q scope f cd A outer s H E).stack := fun z => by
      rcases List.mem_cons.mp (I2.stkSub _ z) with z | z
      · exact absurd (show fv < s.heap.objs.size from Heap.lt_size e) (by rw [z]; exact Nat.lt_irrefl _)
      · exact hn z
    refine wpAny_call (codeAny_mono (run _ _ s2 _ fv Q (fun _ _ _ => False) tl (hr.mono hk) I2.env0 T2 hn2 ht) fun r s' hq => ?_)
    match r, hq with
    | .error er, hq => exact (by obtain ⟨_, _, _, _, _, _, _, _, _, _, _, _, z⟩ := hq; exact z.elim)
    | .ok (.ret u), hq => exact I2.after hq
    | .ok .next, hq => exact False.elim hq
    | .ok .brk, hq => exact False.elim hq
    | .ok .cont, hq => exact False.elim hq
theorem dr_mk {P : Program} {w : World} {K : PySem.W.Frag} {mg : Str → Option Value} {base : Heap} {kr : Nat} {mL : DefM Unit} (F : Fd K mg x st) (S : FnScope ["call", "due"] ["call", "due"] (defScope st))
    (bn : ∀ (kV doc pm : Value) (an : Option Addr) (cdv ct : Value) (us : List Value), us.length = 2 → bindArgs (PySem.W.fnOf x x (defArgs st) (defBody st) (defScope st) .none kV doc pm an cdv ct) ⟨us, []⟩ = pure ([("call" : Str), "due"].zip us))
    (hb : ∀ (f : Addr) (cdv : Value) (A : Around) (outer : List Env) (s : Shared) (H : Hp) (E : XK) (fv : Addr) (tl : Hp → VK → XK → Prop), Room kr (A.deeper (envOfC x (defScope st) s.heap.objs.size f cdv)) → Thk P w K mg base kt fv s H tl → fv ∉ frs outer →
      PSs (cxOf (L2N.CX P w) P w K mg base ["call", "due"] x (defScope st) f cdv A outer s H E) (defBody st) (tRet (tCallSD (spOf K mg 2 mL) [] (fun _ c d H => E c d H) (tCons (tTr1 K mg xs sm fv tl) (tCons (tVar 1) tNil))))) : Dr P w K mg base kt kr x st xs sm mL := by
  obtain ⟨f, fd, FD, gl⟩ := F
  refine ⟨f, fd, FD, gl, fun A outer s H fv vd ud Q E tl hr e0 t hn rd ht => ?_⟩
  have bd := FD.bindsN (ps := [("call" : Str), "due"]) bn s [.ref fv, ud] (e0.mod.kin.keeps fun b o e => (e0.bs b o e).1) rfl
  obtain ⟨oc, od, dV, kV, doc, pm, an, cdv, ct, osl, rfl, lk, hcd, _, _⟩ := FD.ex
  refine LamX.run_ofS (N := ["call", "due"]) (ps := ["call", "due"]) (us := [.ref fv, ud]) (vs := [.ref fv, vd]) lk hcd S hr e0 bd (.cons rfl (.cons rd .nil)) rfl fun hr' => ⟨_, hb f cdv A outer s H E fv tl hr' t hn, ?_⟩
  exact ⟨rfl, t.mono _ _ _ _ _ (fun v H1 q p hp => ⟨vd, rfl, q p hp⟩) (fun c dd H1 ⟨bx, o, H0, x, t, h1, h2, h3, h4, h5, h6, h7⟩ => ⟨bx, o, H0, x, t, h1, h2, h3, h4, h5, h6, fun v H2 H3 gr nw => ⟨vd, rfl, h7 v H2 H3 gr nw⟩⟩) ht⟩
/-- the lambda's code object stays -/
theorem Rel.keepCode {K : PySem.W.Frag} {H0 H : Hp} {σ : L2.St} {s : S β} {c' : Addr} (R : Rel K g H0 σ H s) (hc : H c' = some (LamX.CodeO c' q)) (nb : c' ≠ g.bx) : ∃ H0', Ex H0 H0' ∧ Rel K g H0' σ H s ∧ ∀ H2 H3 s2, Ex H0' H2 → Rel K g H2 σ H3 s2 → H3 c' = some (LamX.CodeO c' q) := by
  cases hF : g.F c' with
  | some o =>
    have : o = LamX.CodeO c' q := by have := R.r0.frm _ _ hF; rw [hc] at this; exact (Option.some.inj this).symm
    subst this
    exact ⟨H0, Ex.refl _, R, fun H2 H3 s2 _ R2 => R2.r0.frm _ _ hF⟩
  | none =>
    cases h0 : H0 c' with
    | some o =>
      have : o = LamX.CodeO c' q := by have := R.r0.sub _ _ h0; rw [hc] at this; exact (Option.some.inj this).symm
      subst this
      exact ⟨H0, Ex.refl _, R, fun H2 H3 s2 e R2 => R2.r0.sub _ _ (e _ _ h0)⟩
    | none =>
      have ex : Ex H0 (upd H0 c' (LamX.CodeO c' q)) := Ex.new h0
      have ne : ∀ {a : Addr}, a ≠ c' → upd H0 c' (LamX.CodeO c' q) a = H0 a := fun h => upd_ne h
      obtain ⟨o, hb, ib⟩ := R.r0.it
      refine ⟨_, ex, ⟨⟨fun a u e => ?_, R.r0.frm, fun a u e => ?_, ?_, R.r0.bxF, ⟨o, hb, g.mono ex ib⟩, R.r0.tb.keep (fun _ _ _ h => h) (fun p _ ⟨ps, z⟩ n => ?_) (.of (Ex.refl _))⟩, R.len, fun i k x h1 h2 => ?_, R.dist⟩, fun H2 H3 s2 e R2 => R2.r0.sub _ _ (e _ _ upd_same)⟩
      · by_cases ha : a = c'
        · rw [ha, upd_same] at e
          rw [ha, hc]; exact e
        · rw [ne ha] at e; exact R.r0.sub a u e
      · have ha : a ≠ c' := fun z => by rw [z, hF] at e; cases e
        rw [ne ha]; exact R.r0.dis a u e
      · rw [ne (Ne.symm nb)]; exact R.r0.bxn
      · rw [ne fun y => by rw [y, hc] at z; exact LamX.codeO_ne _ (Option.some.inj z)]; exact n
      · have sr := R.slot i k x h1 h2
        cases k with
        | no => trivial
        | v d => obtain ⟨y, e1, r⟩ := sr; exact ⟨y, e1, r.mono ex⟩
        | o ds =>
          obtain ⟨p, vs, e1, e2, rs, m0, rest⟩ := sr
          exact ⟨p, vs, e1, e2, rs.mono ex, by rw [ne fun y => by rw [y, hc] at e2; exact codeO_lst _ (Option.some.inj e2)]; exact m0, rest⟩
def refusedM (xs : List Str) (sm : List (Str × M Unit Fl)) (mL : DefM Unit) (mb md : M β RV) : M β RV := mbind md fun r => mbind (triedM xs sm mb) fun t => callP 2 mL (mret [.v t.d, .v r.d])
theorem e_refused {kr : Nat} {mL : DefM Unit} (F : Dr X.prog X.w X.K X.mg X.base (kt + 1) kr x st xs sm mL) (hr : Room k' X.A) (M : Mkr X g c P q) (tk : L2N.Takes X W) (L : LamX.LamS X.env.scope scope)
    (hbody : ∀ (fv c' : Addr) (A : Around) (outer : List Env) (s : Shared) (H : Hp) (E : XK), Room kt (A.deeper (LamX.lamEnv X scope s.heap.objs.size fv c')) → PEM (lamN X A outer s H E scope fv c') g (fun c d _ H => E c d H) body mb) (ha : PEM X g W e2 md)
    (hk : kr + 1 ≤ k' := by decide) (hg : Gl X x := by rfl) (hdb : (x == ("__debug__" : Str)) = false := by decide) (hdef : defaultsOf params X.env = ([], []) := by rfl) (hbind : ∀ (q : Str) (cl : List (Str × Addr)) (pm cv ctv : Value), bindArgs (PySem.W.kla_fn "<lambda>" q params body scope cl pm cv ctv) ⟨[], []⟩ = pure [] := by intros; rfl)
    (hst : starEach [.Lambda params body scope lpos, e2] X.env = (false, eval (.Lambda params body scope lpos) X.env) :: starEach [e2] X.env := by rfl) (hst2 : starEach [e2] X.env = (false, eval e2 X.env) :: starEach [] X.env := by rfl) (hpl : (backTo pos (starEach [e2] X.env)).any (·.1) = false := by rfl) :
    PEM X g W (.Call (.Name x p) [.Lambda params body scope lpos, e2] [] pos) (refusedM xs sm mL mb md) := by
  obtain ⟨f, fd, FD, gl, run⟩ := F
  refine ⟨fun pins s σ H Q I h => ?_⟩
  obtain ⟨H0, st', R, h⟩ := h
  unfold refusedM at h
  rw [on_bind] at h
  obtain ⟨ps, tg⟩ := tabG R M.mem
  obtain ⟨ob, hob, _⟩ := R.r0.it
  refine wpAny_Call_Name_kw (ld_glob I hg gl ?_ hdb)
  refine PySem.W.callWith_K (h₀ := X.base) I.ok.mod.kin FD.kp ?_ hst hpl
  rw [hst]
  refine Calls.spliced_cons (lam_new I M.tb M.code M.hq tg ⟨ob, hob⟩ hdef (L.has I.ok) fun fv c' pm ctv H1 s1 I1 hl hf hfn hfr hco nbx => ?_)
  have R1 := R.lam M.mem M.nd hl
  obtain ⟨H0', e0', R1', keepC⟩ := R1.keepCode hco nbx
  have nL : fv ≠ X.env.locals := fun z => by
    obtain ⟨m, ⟨o, es, ep, e, d, _⟩, _⟩ := I1.loc
    rw [z, e] at hf
    cases hf
    cases d
  have nF : fv ∉ X.fs := fun hm => hfr (by
    rcases I1.ok.stk with z | ⟨z, _⟩
    · rw [z]; exact hm
    · rw [z]
      obtain ⟨e, he, ee⟩ := List.mem_filterMap.mp hm
      exact List.mem_filterMap.mpr ⟨e, List.mem_cons_of_mem _ he, ee⟩)
  have Ip := I1.pins_of (pins' := pins ++ [(fv, _)]) fun p hp => (List.mem_append.mp hp).elim (fun z => I1.pin p (List.mem_append_right _ z)) fun z => by
    have ep := List.mem_singleton.mp z
    subst ep
    exact ⟨hf, hfn, nL, nF, fun v z => by cases z⟩
  have h : (md st').on _ _ := h
  refine wpAny_mono ((pa_cons ha.d pa_nil hst2).run pos _ s1 σ H1 (fun vs H2 => ∃ vd, vs = [vd] ∧ ∃ H02 s2 r, Ex H0' H02 ∧ Rel X.K g H02 σ H2 s2 ∧ Rep X.K g.bx H02 vd r ∧ (mbind (triedM xs sm mb) (fun t => callP 2 mL (mret [.v t.d, .v r])) s2).on (ResP X.K g H0' σ Q) (Esc X.K X.mg g W H0' σ)) Ip ⟨H0', st', R1', Out.on_imp h (fun r s2 q v H2 H3 e2 R2 rr => ?_) fun _ _ q => q.back e0'⟩) (fun us s2 hh => ?_) fun _ _ z => z
  · exact ⟨v, rfl, H2, s2, r.d, e2, R2, rr, Out.on_imp q (fun r s3 q v H4 H5 e3 R3 rr ap => q v H4 H5 (e0'.trans e3) R3 rr ap) fun _ _ q => q.back e0'⟩
  obtain ⟨_, H2, I2, rv, vd, rfl, H02, st2, rd, e2, R2, rr, hm⟩ := hh
  match us, rv with
  | [ud], .cons rud .nil =>
    obtain ⟨z1, z2, _⟩ := I2.pin (fv, _) (List.mem_append_right _ (List.mem_append_right _ (List.mem_singleton.mpr rfl)))
    have J2 := I2.unpinned
    have hc2 := keepC _ _ _ e2 R2
    have T2 := thk_of (g := g) (mb := mb) (k := kt) J2 L M.hq z1 z2 (hbind _ _ _ _ _) fun A outer s H E hr2 => hbody fv c' A outer s H E hr2
    rw [on_bind] at hm
    refine ⟨J2.kIn, wpAny_call (codeAny_mono (run X.A X.stack s2 H2 fv vd ud Q (fun c d H => W c d σ H) _ (hr.mono hk) J2.env0 T2 hfr rud ⟨hc2, tried_ask R2 hm fun d s' q v H4 H5 e R3 rv' => ?_⟩) fun r s' hq => ?_)⟩
    · have q : (mbind (rsl [Arg.v d, .v rd]) (fun ds => outP [Arg.v d, .v rd] (mL ds ())) s').on (ResP X.K g H0' σ Q) (Esc X.K X.mg g W H0' σ) := q
      rw [on_bind, on_rsl] at q
      obtain ⟨ds, eds, q⟩ := q
      exact spP (g := g) (W := W) (as := [.v d, .v rd]) R3 (.cons rv' (.cons (rr.mono e) .nil)) rfl eds (Out.on_imp q (fun r s3 q v H6 H7 e3 R4 rr ap => q v H6 H7 ((e2.trans e).trans e3) R4 rr ap) fun _ _ q => q.back (e2.trans e))
    · match r, hq with
      | .error er, hq => exact L2N.passAt tk σ _ _ s2 er s' J2 hq
      | .ok (.ret u), hq => exact J2.after hq
      | .ok .next, hq => exact False.elim hq
      | .ok .brk, hq => exact False.elim hq
      | .ok .cont, hq => exact False.elim hq
end
end DL

set_option Elab.async false
set_option linter.all false
set_option maxRecDepth 100000
set_option maxHeartbeats 4000000
namespace DL
open PySem PySem.Spec L2
/-! ### texts -/
def asS : D → Option Str
  | .str x => some x
  | _ => none
theorem asS_eq {d : D} {x : Str} (h : asS d = some x) : d = .str x := by
  unfold asS at h
  split at h
  · cases h; rfl
  · cases h
/-- a method of texts with no argument | with one -/
structure Sm0 (X : Cx) (name : Str) (f : Str → Option RV) : Prop where
  ex : ∃ id r, PySem.Slot "str" name id ∧ typeOf (.builtin id) = pure (.type "method_descriptor") ∧ MtR X id r ∧ ∀ bx H0 H a rz Q, Ex H0 H → f a = some rz → Fin X.K bx H0 H rz Q → r (.str a) [] H Q
structure Sm1 (X : Cx) (name : Str) (f : Str → D → Option RV) : Prop where
  ex : ∃ id r, PySem.Slot "str" name id ∧ typeOf (.builtin id) = pure (.type "method_descriptor") ∧ MtR X id r ∧ ∀ bx H0 H a v d rz Q, Ex H0 H → Rep X.K bx H0 v d → f a d = some rz → Fin X.K bx H0 H rz Q → r (.str a) [v] H Q
def findF (a : Str) : D → Option RV
  | .str b => some (.v (.int (Txt.find a b)))
  | _ => none
def startsF (a : Str) : D → Option RV
  | .str b => some (.v (.bl (Txt.startswith a b)))
  | _ => none
def splitF (a : Str) : D → Option RV
  | .str b => if (b.length == 0) = false ∧ a.length + 2 ≤ sizeLine then some (.o ((Txt.split a b).map D.str)) else none
  | _ => none
def isdecF (a : Str) : Option RV := some (.v (.bl (Txt.isdecimal a)))
section
variable {X : Cx}
theorem sm_find : Sm1 X "find" findF := ⟨_, _, PySem.F.slot_str_find, PySem.F.type_str_find, mt_find, fun bx H0 H a v d rz Q sub r e k => by
  unfold findF at e
  split at e
  · cases e; cases r; exact ⟨_, _, rfl, rfl, k.val sub .int⟩
  · cases e⟩
theorem sm_starts : Sm1 X "startswith" startsF := ⟨_, _, PySem.F.slot_str_startswith, PySem.F.type_str_startswith, mt_startswith, fun bx H0 H a v d rz Q sub r e k => by
  unfold startsF at e
  split at e
  · cases e; cases r; exact ⟨_, _, rfl, rfl, k.val sub .bl⟩
  · cases e⟩
theorem sm_split : Sm1 X "split" splitF := ⟨_, _, PySem.F.slot_str_split, PySem.F.type_str_split, mt_split, fun bx H0 H a v d rz Q sub r e k => by
  unfold splitF at e
  split at e
  · split at e
    · rename_i h
      cases e; cases r; exact ⟨_, _, rfl, rfl, h.1, h.2, fun p hp => k.lst sub (reps_strs _) hp⟩
    · cases e
  · cases e⟩
theorem sm_isdec : Sm0 X "isdecimal" isdecF := ⟨_, _, PySem.F.slot_str_isdecimal, PySem.F.type_str_isdecimal, mt_isdecimal, fun bx H0 H a rz Q sub e k => by
  cases e; exact ⟨_, rfl, rfl, trivial, k.val sub .bl⟩⟩
end
section
variable {β : Type} {X : Cx} {g : G β} {W : WX} {o e a b tg : Expr} {es : List Expr} {m mo me : M β RV} {ms : List (M β RV)} {name : Str} {pos apos p p1 p2 p3 : Pos} {f0 : Str → Option RV} {f1 : Str → D → Option RV}
def sm0M (f : Str → Option RV) (mo : M β RV) : M β RV := mbind mo fun x => mbind (opt (asS x.d)) fun a => opt (f a)
def sm1M (f : Str → D → Option RV) (mo me : M β RV) : M β RV := mbind mo fun x => mbind (opt (asS x.d)) fun a => mbind me fun y => opt (f a y.d)
theorem e_sm0 (hm : Sm0 X name f0) (ho : PEM X g W o mo) (hbase : attributeBase o name X.env (eval o X.env) = eval o X.env := by rfl) (hline : (apos.endLine == pos.line) = true := by rfl) : PEM X g W (.Call (.Attribute o name apos) [] [] pos) (sm0M f0 mo) := by
  obtain ⟨id, r, slot, ty, rule, ok⟩ := hm.ex
  refine PE.imp (pe_m0 slot ty rule ho.d hbase hline) fun σ H Q ⟨H0, s, R, q⟩ => ?_
  unfold sm0M at q
  rw [on_bind] at q
  refine ⟨H0, s, R, Out.on_imp q (fun x s1 q v H1 H2 e1 R1 r1 => ?_) fun _ _ q => q⟩
  rw [on_bind, on_opt] at q
  obtain ⟨a, ea, q⟩ := q
  rw [asS_eq ea] at r1
  cases r1
  rw [on_opt] at q
  obtain ⟨rz, ez, q⟩ := q
  exact ⟨⟨a, rfl⟩, ok g.bx H1 H2 a rz Q R1.r0.sub ez (fin_of R1 e1 q)⟩
theorem e_sm1 (hm : Sm1 X name f1) (ho : PEM X g W o mo) (he : PEM X g W e me) (hs : starEach [e] X.env = [(false, eval e X.env)] := by rfl) (hbase : attributeBase o name X.env (eval o X.env) = eval o X.env := by rfl) (hline : (apos.endLine == pos.line) = true := by rfl) : PEM X g W (.Call (.Attribute o name apos) [e] [] pos) (sm1M f1 mo me) := by
  obtain ⟨id, r, slot, ty, rule, ok⟩ := hm.ex
  refine PE.imp (pe_m1 slot ty rule ho.d he.d hs hbase hline) fun σ H Q ⟨H0, s, R, q⟩ => ?_
  unfold sm1M at q
  rw [on_bind] at q
  refine ⟨H0, s, R, Out.on_imp q (fun x s1 q v H1 H2 e1 R1 r1 => ?_) fun _ _ q => q⟩
  rw [on_bind, on_opt] at q
  obtain ⟨a, ea, q⟩ := q
  rw [asS_eq ea] at r1
  cases r1
  rw [on_bind] at q
  refine ⟨⟨a, rfl⟩, H1, s1, R1, Out.on_imp q (fun y s2 q u H3 H4 e2 R2 r2 => ?_) fun _ _ q => q.back e1⟩
  rw [on_opt] at q
  obtain ⟨rz, ez, q⟩ := q
  exact ok g.bx H3 H4 a u y.d rz Q R2.r0.sub r2 ez (fin_of R2 (e1.trans e2) q)
/-! ### one sign in a text -/
def inSD : D → D → Option RV
  | .str x, .str z => match x.cps.toList with
    | [c] => some (.v (.bl (decide (c ∈ z.cps.toList))))
    | _ => none
  | _, _ => none
def notInSD : D → D → Option RV
  | .str x, .str z => match x.cps.toList with
    | [c] => some (.v (.bl (!decide (c ∈ z.cps.toList))))
    | _ => none
  | _, _ => none
theorem str1_eq {x : Str} {c : Nat} (h : x.cps.toList = [c]) : x = ⟨#[c]⟩ := by
  obtain ⟨⟨l⟩⟩ := x
  have h : l = [c] := h
  subst h; rfl
theorem c_inS : Cmp X .In inSD := ⟨_, op_in_sign, fun bx H0 H x y dx dy rz Q sub rx ry e k => by
  unfold inSD at e
  split at e
  · split at e
    · rename_i h
      cases e; cases rx; cases ry
      rw [str1_eq h]
      exact ⟨_, _, rfl, rfl, k.val sub .bl⟩
    · cases e
  · cases e⟩
theorem c_notInS : Cmp X .NotIn notInSD := ⟨_, op_notIn_sign, fun bx H0 H x y dx dy rz Q sub rx ry e k => by
  unfold notInSD at e
  split at e
  · split at e
    · rename_i h
      cases e; cases rx; cases ry
      rw [str1_eq h]
      exact ⟨_, _, rfl, rfl, k.val sub .bl⟩
    · cases e
  · cases e⟩
/-! ### str(int), int(text) -/
def strF : List D → Option RV
  | [.int i] => if i.natAbs.log2 < 1920 then some (.v (.str (toString i))) else none
  | _ => none
theorem b_str : Blt X (.type "str") strF := ⟨_, call_str_int, fun bx H0 H xs dxs rz Q sub rs e k => by
  unfold strF at e
  split at e
  · split at e
    · rename_i h
      cases e
      obtain ⟨v, rfl, r⟩ := rs.cases1
      cases r
      exact ⟨_, rfl, h, k.val sub .str⟩
    · cases e
  · cases e⟩
def intSF : List D → Option RV
  | [.str a] => if a.length ≤ 640 then (PySem.intText? a).map fun n => .v (.int n) else none
  | ds => intF ds
theorem b_intS : Blt X (.type "int") intSF := by
  obtain ⟨r, hr, ok⟩ := (b_int (X := X)).ex
  refine ⟨_, call_int_str.or hr, fun bx H0 H xs dxs rz Q sub rs e k => ?_⟩
  unfold intSF at e
  split at e
  · split at e
    · rename_i h
      rw [Option.map_eq_some_iff] at e
      obtain ⟨n, hn, rfl⟩ := e
      obtain ⟨v, rfl, r⟩ := rs.cases1
      cases r
      exact .inl ⟨_, n, rfl, hn, h, k.val sub .int⟩
    · cases e
  · exact .inr (ok bx H0 H xs _ rz Q sub rs e k)
/-! ### f-strings -/
def fmtD : D → Option RV
  | .str y => if y.length ≤ sizeLine then some (.v (.str y)) else none
  | .int i => if i.natAbs.log2 < 1920 then some (.v (.str (toString i))) else none
  | _ => none
theorem e_fmt (h : PEM X g W e m) : PEM X g W (.FormattedValue e (-1) none pos) (eUn fmtD m) := PE.imp (pe_fmt h.d) fun σ H Q ⟨H0, s, R, q⟩ => by
  unfold eUn at q
  rw [on_bind] at q
  refine ⟨H0, s, R, Out.on_imp q (fun x s1 q v H1 H2 e1 R1 r1 => ?_) fun _ _ q => q⟩
  rw [on_opt] at q
  obtain ⟨rz, ez, q⟩ := q
  unfold fmtD at ez
  split at ez
  · rename_i y hy
    split at ez
    · rename_i hz
      cases ez
      rw [hy] at r1
      cases r1
      exact .inl ⟨_, rfl, hz, q _ H1 H2 e1 R1 .str trivial⟩
    · cases ez
  · rename_i i hi
    split at ez
    · rename_i hz
      cases ez
      rw [hi] at r1
      cases r1
      exact .inr ⟨_, rfl, hz, q _ H1 H2 e1 R1 .str trivial⟩
    · cases ez
  · cases ez
def jsM : List (M β RV) → Str → M β Str
  | [], acc => mret acc
  | m :: ms, acc => mbind m fun r => mbind (opt (asS r.d)) fun y => mIte (decide ((acc ++ y).length ≤ sizeLine)) (jsM ms (acc ++ y)) mbad
def fsM (ms : List (M β RV)) : M β RV := mbind (jsM ms Str.empty) fun y => mret (.v (.str y))
inductive PJM (X : Cx) (g : G β) (W : WX) : List Expr → List (M β RV) → Prop where
  | nil : PJM X g W [] []
  | cons {e : Expr} {m : M β RV} {es : List Expr} {ms : List (M β RV)} (h : PEM X g W e m) (r : PJM X g W es ms) : PJM X g W (e :: es) (m :: ms)
theorem PJM.pj (h : PJM X g W es ms) : PJ X es (ms.map fun m => tD X.K X.mg g W m) := by
  induction h with
  | nil => exact .nil
  | cons h _ ih => exact .cons h.d ih
theorem js_ask {K : PySem.W.Frag} {mg : Str → Option Value} {σ : L2.St} {H0 : Hp} : ∀ {ms : List (M β RV)} {acc : Str} {H1 H : Hp} {s : S β} {Q : Str → Hp → Prop}, Ex H0 H1 → Rel K g H1 σ H s → (jsM ms acc s).on (fun y s' => ∀ H0' H', Ex H0 H0' → Rel K g H0' σ H' s' → Q y H') (Esc K mg g W H0 σ) →
    tJs (ms.map fun m => tD K mg g W m) acc σ H Q
  | [], acc, H1, H, s, Q, e, R, h => h H1 H e R
  | m :: ms, acc, H1, H, s, Q, e, R, h => by
    unfold jsM at h
    rw [on_bind] at h
    refine ⟨H1, s, R, Out.on_imp h (fun r s1 h v H2 H3 e1 R1 r1 => ?_) fun _ _ q => q.back e⟩
    rw [on_bind, on_opt] at h
    obtain ⟨y, ey, h⟩ := h
    rw [asS_eq ey] at r1
    cases r1
    cases hd : decide ((acc ++ y).length ≤ sizeLine) with
    | false => rw [hd] at h; exact h.elim
    | true =>
      rw [hd] at h
      exact ⟨y, rfl, of_decide_eq_true hd, js_ask (e.trans e1) R1 h⟩
theorem e_fs {e1 e2 : Expr} (h : PJM X g W (e1 :: e2 :: es) ms) : PEM X g W (.JoinedStr (e1 :: e2 :: es) pos) (fsM ms) := PE.imp (pe_joined h.pj) fun σ H Q ⟨H0, s, R, q⟩ => by
  unfold fsM at q
  rw [on_bind] at q
  exact js_ask (Ex.refl _) R (Out.on_imp q (fun y s1 q H1 H2 e1 R1 => q _ H1 H2 e1 R1 .str trivial) fun _ _ q => q)
/-! ### the signs of a text walked -/
def signsD (x : Str) : List D := x.cps.toList.map fun c => .str ⟨#[c]⟩
def itsM (m : M β RV) : M β (List D) := mbind m fun r => mbind (opt (asS r.d)) fun x => mret (signsD x)
theorem walks_s {K : PySem.W.Frag} {bx : Addr} {H0 : Hp} {x : Str} : Walks K bx (Its x) H0 (signsD x) := by
  refine ⟨fun H e => ?_, fun H i d e hd => ?_, fun Ht H i d v H' e0 e hd y => ?_⟩
  · show x.cps.size ≤ (signsD x).length
    unfold signsD
    rw [List.length_map, Array.length_toList]; exact Nat.le_refl _
  · have := (List.getElem?_eq_some_iff.mp hd).1
    unfold signsD at this
    rw [List.length_map, Array.length_toList] at this
    exact this
  · obtain ⟨rfl, c, hc, rfl⟩ := y
    unfold signsD at hd
    rw [List.getElem?_map, Option.map_eq_some_iff] at hd
    obtain ⟨c', hc', rfl⟩ := hd
    rw [Array.getElem?_toList, hc] at hc'
    cases hc'
    exact ⟨Ht, Grow.refl e, .str⟩
theorem i_str (h : PEM X g W e m) : PIM X g W tg e (itsM m) := PI.imp (pi_str h.d) fun σ H Q ⟨H0, s, R, q⟩ => by
  unfold itsM at q
  rw [on_bind] at q
  refine ⟨H0, s, R, Out.on_imp q (fun r s1 q v H1 H2 e1 R1 r1 => ?_) fun _ _ q => q⟩
  rw [on_bind, on_opt] at q
  obtain ⟨x, ex, q⟩ := q
  rw [asS_eq ex] at r1
  cases r1
  exact ⟨x, rfl, q _ H1 H2 e1 R1 walks_s⟩
/-! ### dict displays: none; one row of a text and a tuple of ints -/
theorem Fin.dct {K : PySem.W.Frag} {bx : Addr} {H0 H : Hp} {Q : VK} {ks : List (Key × V)} {ds : List (Key × D)} {p : Addr} (f : Fin K bx H0 H (.v (.dct ds)) Q) (h : Ex H0 H) (l : ks.map (·.1) = ds.map (·.1)) (rr : Reps K bx H0 (ks.map (·.2)) (ds.map (·.2))) (hp : H p = none) : Q (.ref p) (upd H p (.dK ks)) := by
  have n0 := h.back hp
  refine f _ (upd H0 p (.dK ks)) _ ⟨Ex.new n0, Ex.new hp, fun a o e => ?_, fun a o e => ?_⟩ (.dct upd_same l (rr.mono (Ex.new n0)).get)
  · by_cases ha : a = p
    · subst ha; rw [upd_same] at e ⊢; exact e
    · rw [upd_ne ha] at e ⊢; exact h a o e
  · by_cases ha : a = p
    · subst ha; exact .inr hp
    · rw [upd_ne ha] at e; exact .inl e
theorem e_dct0 : PEM X g W (.Dict [] [] pos) (cst (.dct [])) := PE.imp pe_dnewK fun σ H Q ⟨H0, s, R, q⟩ p hp => by
  exact Fin.dct (ds := []) (fin_of R (Ex.refl _) q) R.r0.sub rfl .nil hp
end
end DL

set_option Elab.async false
set_option linter.all false
set_option maxRecDepth 100000
set_option maxHeartbeats 4000000
namespace DL
open PySem PySem.Spec L2
/-! ### {text: (ints)} -/
section
variable {β : Type} {X : Cx} {g : G β} {W : WX} {e : Expr} {es : List Expr} {ms : M β (List Arg)} {pos p p1 p2 : Pos} {x : Str} {st : Stmt} {k k' : Nat}
theorem Rel.tup1 {K : PySem.W.Frag} {H0 H : Hp} {σ : L2.St} {s : S β} {vs : List V} {ds : List D} {q : Addr} (R : Rel K g H0 σ H s) (rs : Reps K g.bx H0 vs ds) (hq : H q = none) :
    Ex H0 (upd H0 q (.tup vs)) ∧ Rel K g (upd H0 q (.tup vs)) σ (upd H q (.tup vs)) s ∧ Rep K g.bx (upd H0 q (.tup vs)) (.ref q) (.tup ds) := by
  have n0 := R.r0.sub.back hq
  have ex := Ex.new (o := .tup vs) n0
  refine ⟨ex, R.grow ex (Ex.new hq) (fun a o e => ?_) (fun a o e => ?_), .tupR (.of upd_same) (rs.mono ex)⟩
  · by_cases ha : a = q
    · subst ha; rw [upd_same] at e ⊢; exact e
    · rw [upd_ne ha] at e ⊢; exact R.r0.sub a o e
  · by_cases ha : a = q
    · subst ha; exact .inr hq
    · rw [upd_ne ha] at e; exact .inl e
theorem e_dctT {y : Str} {is : List Int} {j kk : Nat} (h : PA X es (fun σ H Q => Q (is.map V.int) H)) (hl : is.length ≤ 100) : PEM X g W (.Dict [some (.Constant (.str y) j p1)] [.Tuple es kk p2] pos) (cst (.dct [(.inr y, .tup (is.map D.int))])) := by
  refine PE.imp (pe_disp (pps_cons pe_str (pe_tup h) pps_nil) rfl rfl (by simp) (by simp)) fun σ H Q ⟨H0, s, R, q⟩ p hp => ?_
  have ri : ∀ {K : PySem.W.Frag} {bx : Addr} {H : Hp}, Reps K bx H (is.map V.int) (is.map D.int) := ⟨by simp, fun i v d h h' => by
    rw [List.getElem?_map, Option.map_eq_some_iff] at h h'
    obtain ⟨n, hn, rfl⟩ := h
    obtain ⟨m, hm, rfl⟩ := h'
    rw [hn] at hm; cases hm
    exact .int⟩
  refine ⟨by rw [List.length_map, sizeLine_eq]; omega, fun t ht => ?_⟩
  have tp : t ≠ p := fun z => by rw [z, upd_same] at ht; cases ht
  rw [upd_ne tp] at ht
  refine ⟨by rw [upd_ne (Ne.symm tp), upd_same], [(.inr y, .ref t)], rfl, ?_⟩
  have eH : ∀ o o2 : HO, upd (upd (upd H p o) t (.tup (is.map V.int))) p o2 = upd (upd H t (.tup (is.map V.int))) p o2 := fun o o2 => by
    funext b
    by_cases hb : b = p
    · subst hb; rw [upd_same, upd_same]
    · rw [upd_ne hb, upd_ne hb]
      by_cases ht : b = t
      · subst ht; rw [upd_same, upd_same]
      · rw [upd_ne ht, upd_ne ht, upd_ne hb]
  rw [eH]
  obtain ⟨ex, R1, r1⟩ := R.tup1 (vs := is.map V.int) (ds := is.map D.int) ri ht
  refine ⟨Nat.le_of_ble_eq_true rfl, ?_⟩
  show Q (.ref p) (upd (upd H t (.tup (is.map V.int))) p (.dK [(.inr y, .ref t)]))
  exact Fin.dct (ks := [(.inr y, V.ref t)]) (ds := [(.inr y, .tup (is.map D.int))]) (fin_of R1 ex q) R1.r0.sub rfl (.one r1) (by rw [upd_ne (Ne.symm tp)]; exact hp)
/-! ### def f( *v): called with what is written -/
theorem cxUpN {P : Program} {w : World} : StX.CXUp (L2N.CX P w) := by
  intro outer s H s2 H2 E e s' un kp ho h
  obtain ⟨a, B, H', cls, d, ea, fl, hok, ub, na, os, ag, he⟩ := h
  have fr : ∀ {b o}, s.heap.get? b = some o → H b = none → H2 b = none := fun {b o} q n => un.free b o q n (by simp)
  refine ⟨a, B, H', cls, d, ea, fl, hok, { keep := fun b o q n hb => ub.keep b o (kp b o q) (fr q n) hb, slot := fun b o q hb => ub.slot b o (kp b o q) hb, free := fun b o q n => ub.free b o (kp b o q) (fr q n), there := fun b o q hb => ub.there b o (kp b o q) hb, tups := fun b xs q => ub.tups b xs (un.tups b xs q), frzs := fun b o xs q => ub.frzs b o xs (un.frzs b o xs q), tbls := fun b ps q => ?_ }, na, os.trans ho, ag, he⟩
  obtain ⟨m1, e1⟩ := un.tbls b ps q
  obtain ⟨m2, e2⟩ := ub.tbls b _ e1
  exact ⟨m1 ++ m2, by rw [e2, Array.append_assoc]⟩
def spStar (K : PySem.W.Frag) (mg : Str → Option Value) (m : DefM Unit) : Sp := fun vs H Q E => ∃ ws rest, vs = ws ++ rest ∧ ws.length = 0 ∧ rest.length ≤ sizeLine ∧ ∀ p, H p = none → spOf K mg 1 m (ws ++ [V.ref p]) (upd H p (.tup rest)) Q E
def Ds (P : Program) (w : World) (K : PySem.W.Frag) (mg : Str → Option Value) (base : Heap) (k : Nat) (x : Str) (st : Stmt) (m : DefM Unit) : Prop :=
  ∃ f fd, FunD K x x (defArgs st) (defBody st) (defScope st) [] [] f fd ∧ mg x = some (.ref f) ∧ FnR P w K mg base (L2N.CX P w) k f (spStar K mg m)
theorem ds_mk {P : Program} {w : World} {K : PySem.W.Frag} {mg : Str → Option Value} {base : Heap} {pv : Str} (N : List Str) {mb : M Unit Fl} (F : Fd K mg x st) (S : FnScope N [pv] (defScope st))
    (bn : ∀ (kV doc pm : Value) (an : Option Addr) (cdv ct : Value) (rest : List Value), bindArgs (PySem.W.fnOf x x (defArgs st) (defBody st) (defScope st) .none kV doc pm an cdv ct) ⟨rest, []⟩ = (newTuple rest >>= fun t => pure [(pv, t)]))
    (hb : ∀ (f : Addr) (cdv : Value) (A : Around) (outer : List Env) (s : Shared) (H : Hp) (E : XK) (g : G Unit), Room k (A.deeper (PyProof.Rows.envOfC x (defScope st) s.heap.objs.size f cdv)) → PSSM (cxOf (L2N.CX P w) P w K mg base N x (defScope st) f cdv A outer s H E) g (fun c d _ H => E c d H) (defBody st) mb) :
    Ds P w K mg base (k + 1) x st (runDef N.length mb) := by
  obtain ⟨f, fd, FD, gl⟩ := F
  refine ⟨f, fd, FD, gl, ?_⟩
  obtain ⟨oc, od, dV, kV, doc, pm, an, cdv, ct, osl, rfl, lk, hcd, hD, _⟩ := FD.ex
  rcases hD with ⟨_, rfl⟩ | ⟨e, _⟩
  · refine StX.fn_star (ps := []) (pv := pv) (sp := spOf K mg 1 (runDef N.length mb)) lk hcd S cxUpN (fun us rest hl => ?_) fun A outer s H vs Q E hr ⟨g, H0, b, ds, hG, hn, r0, rs, h⟩ => ⟨_, hb f cdv A outer s H E g hr, body_ok r0 rs h⟩
    match us, hl with
    | [], _ => exact bn kV doc pm an cdv ct rest
  · exact absurd rfl e
def callS (md : DefM Unit) (ms : M β (List Arg)) : M β RV := mbind ms fun as => mIte (noB as && decide (as.length ≤ 1000)) (mbind (rsl as) fun ds => outP [.v (.tup ds)] (md [.tup ds] ())) mbad
theorem star_ask {K : PySem.W.Frag} {mg : Str → Option Value} {md : DefM Unit} {σ : L2.St} {H : Hp} {Q : VK} (h : tE K mg g W (callS md ms) σ H Q) : tAB K mg g W ms σ H fun vs H1 => spStar K mg md vs H1 Q (fun c d H => W c d σ H) := by
  obtain ⟨H0, s, R, h⟩ := h
  unfold callS at h
  rw [on_bind] at h
  refine ⟨H0, s, R, Out.on_imp h (fun as s1 h vs H1 H2 e1 R1 ra => ?_) fun _ _ q => q⟩
  cases hl : (noB as && decide (as.length ≤ 1000)) with
  | false => rw [hl] at h; exact h.elim
  | true =>
    rw [hl] at h
    obtain ⟨hnb, hlen⟩ := Bool.and_eq_true_iff.mp hl
    have hlen := of_decide_eq_true hlen
    have h : (mbind (rsl as) (fun ds => outP [.v (.tup ds)] (md [.tup ds] ())) s1).on _ _ := h
    rw [on_bind, on_rsl] at h
    obtain ⟨ds, eds, h⟩ := h
    have rs := res_plain ra hnb eds
    have lv : vs.length = as.length := ra.len
    refine ⟨[], vs, rfl, rfl, by rw [sizeLine_eq]; omega, fun p hp => ?_⟩
    obtain ⟨ex, R2, r2⟩ := R1.tup1 rs hp
    exact spP (g := g) (W := W) (as := [.v (.tup ds)]) R2 (.cons r2 .nil) rfl rfl (Out.on_imp h (fun r s3 q v H4 H5 e3 R4 rr ap => q v H4 H5 ((e1.trans ex).trans e3) R4 rr ap) fun _ _ q => q.back (e1.trans ex))
theorem e_star {md : DefM Unit} (F : Ds X.prog X.w X.K X.mg X.base k x st md) (hr : Room k' X.A) (tk : L2N.Takes X W) (ha : PABM X g W (e :: es) ms) (hk : k ≤ k' := by decide) (hg : Gl X x := by rfl) (hdb : (x == ("__debug__" : Str)) = false := by decide)
    (he : starEach (e :: es) X.env = (false, eval e X.env) :: starEach es X.env := by rfl) (hpl : (backTo pos (starEach es X.env)).any (·.1) = false := by rfl) : PEM X g W (.Call (.Name x p) (e :: es) [] pos) (callS md ms) := by
  obtain ⟨f, fd, FD, gl, F⟩ := F
  refine ⟨fun pins s σ H Q I h => wpAny_Call_Name_kw (ld_glob I hg gl (PySem.W.callWith_K (h₀ := X.base) I.ok.mod.kin FD.kp (thn (ha.run pos pins s σ H _ I (star_ask h)) fun us s1 hh => ?_) he hpl) hdb)⟩
  obtain ⟨vs, H1, I1, r, q⟩ := hh
  refine ⟨I1.kIn, wpAny_call (codeAny_mono (F X.A X.stack s1 H1 us vs Q _ (hr.mono hk) I1.env0 r q) fun r s' hq => ?_)⟩
  match r, hq with
  | .error er, hq => exact L2N.passAt tk σ pins H1 s1 er s' I1 hq
  | .ok (.ret u), hq => exact I1.after hq
  | .ok .next, hq => exact False.elim hq
  | .ok .brk, hq => exact False.elim hq
  | .ok .cont, hq => exact False.elim hq
theorem e_star0 {md : DefM Unit} (F : Ds X.prog X.w X.K X.mg X.base k x st md) (hr : Room k' X.A) (tk : L2N.Takes X W) (hk : k ≤ k' := by decide) (hg : Gl X x := by rfl) (hdb : (x == ("__debug__" : Str)) = false := by decide) : PEM X g W (.Call (.Name x p) [] [] pos) (callS md (mret [])) := by
  obtain ⟨f, fd, FD, gl, F⟩ := F
  refine ⟨fun pins s σ H Q I h => wpAny_Call_Name_kw (ld_glob I hg gl (PySem.W.callWith_K0 I.kIn FD.kp ?_) hdb)⟩
  obtain ⟨H0, s0, R, q⟩ := star_ask h
  have q := q [] H0 H (Ex.refl _) R .nil
  refine wpAny_call (codeAny_mono (F X.A X.stack s H [] [] Q _ (hr.mono hk) I.env0 .nil q) fun r s' hq => ?_)
  match r, hq with
  | .error er, hq => exact L2N.passAt tk σ pins H s er s' I hq
  | .ok (.ret u), hq => exact I.after hq
  | .ok .next, hq => exact False.elim hq
  | .ok .brk, hq => exact False.elim hq
  | .ok .cont, hq => exact False.elim hq
end
end DL

set_option Elab.async false
set_option linter.all false
set_option maxRecDepth 100000
set_option maxHeartbeats 4000000
namespace DL
open PySem PySem.Spec PyProof.Rows L2 L2H
/-! ### facts about exception classes, as Bools of the written part -/
theorem oexB_ok {K : PySem.W.Frag} {C : Addr} (h : oexB K C = true) : OexC K C := by
  obtain ⟨h1, h⟩ := Bool.and_eq_true_iff.mp h
  obtain ⟨h2, h⟩ := Bool.and_eq_true_iff.mp h
  obtain ⟨h3, h⟩ := Bool.and_eq_true_iff.mp h
  obtain ⟨h4, h5⟩ := Bool.and_eq_true_iff.mp h
  refine ⟨?_, of_decide_eq_true h2, of_decide_eq_true h3, of_decide_eq_true h4, h5⟩
  cases e : K.lookup C with
  | none => rw [e] at h1; cases h1
  | some o =>
    obtain ⟨oc, od, dt, sl⟩ := o
    rw [e] at h1
    cases oc with
    | type t =>
      cases dt with
      | cls cd =>
        have h1 : (match cd.mro, sl.toList with
          | .ref C' :: bm, [_, _, _, _, some (.builtin n), _] => decide (t = "type") && (C' == C && (n == "ValueError.__new__" && (!cd.hasDel && (cd.hasDict && PySem.HandSPX.refsVE bm))))
          | _, _ => false) = true := h1
        split at h1
        · rename_i C' bm k0 k1 k2 k3 n k5 hm hs
          simp only [Bool.and_eq_true, beq_iff_eq, Bool.not_eq_true', decide_eq_true_eq] at h1
          obtain ⟨rfl, rfl, rfl, hdel, hdict, hve⟩ := h1
          obtain ⟨nm, bs, mro, ns, qn, hd, sn, sub, ab, col, del⟩ := cd
          dsimp only at hm hdel hdict
          subst hm hdel hdict
          have hsl : sl = #[k0, k1, k2, k3, some (.builtin "ValueError.__new__"), k5] := by
            obtain ⟨l⟩ := sl
            simp only at hs
            rw [hs]
          subst hsl
          exact ⟨nm, qn, ns, bs, bm, sn, sub, ab, col, od, k0, k1, k2, k3, k5, rfl, hve⟩
        · cases h1
      | _ => cases h1
    | _ => cases dt <;> cases h1
theorem excCB_ok {K : PySem.W.Frag} {C : Addr} (h : excCB K C = true) : ExcC K C := by
  unfold excCB at h
  simp only [Bool.and_eq_true, decide_eq_true_eq] at h
  obtain ⟨h1, h2, h3, h4, h5, h6, h7, h8⟩ := h
  exact ⟨h1, h2, h3, h4, h5, h6, h7, h8⟩
theorem rowsOf_len (c : Str) : (rowsOf c).length ≤ 100 := by unfold rowsOf; rw [List.length_map]; decide
structure MarksF (K : PySem.W.Frag) (mg : Str → Option Value) (xs : List Str) : Prop where
  exc : ∀ c ∈ xs, ExcC K (He.ga K c)
  own : ∀ y ∈ marksOwn, mg y = some (.ref (He.ga K y))
  kitO : ∀ c ∈ xs, ∀ y ∈ marksOwn, PySem.W.kitOne K (.ref (He.ga K c)) (.ref (He.ga K y)) = some (isB c y)
  kitB : ∀ c ∈ xs, ∀ y ∈ marksBlt, PySem.W.kitOne K (.ref (He.ga K c)) (.type y.toString) = some (isB c y)
theorem fldB_ok {xs : XS} {K : PySem.W.Frag} (h : fldB xs K = true) : XF K xs := ⟨fun c hc => excCB_ok (Bool.and_eq_true_iff.mp (List.all_eq_true.mp h c hc)).1, fun c hc f hf => of_decide_eq_true (List.all_eq_true.mp (Bool.and_eq_true_iff.mp (List.all_eq_true.mp h c hc)).2 f hf)⟩
theorem exmB_ok {xs ys : List Str} {K : PySem.W.Frag} {mg : Str → Option Value} (h : exmB xs ys K = true) (h1 : ∀ c ∈ xs, mg c = some (.ref (He.ga K c))) (h2 : ∀ c ∈ ys, mg c = some (.ref (He.ga K c))) : XM K mg xs ys := ⟨h1, h2, fun c hc y hy => of_decide_eq_true (List.all_eq_true.mp (List.all_eq_true.mp h c hc) y hy)⟩
theorem marksB_ok {xs : List Str} {K : PySem.W.Frag} {mg : Str → Option Value} (h : marksB xs K = true) (h1 : ∀ y ∈ marksOwn, mg y = some (.ref (He.ga K y))) : MarksF K mg xs := by
  have at_ : ∀ c ∈ xs, excCB K (He.ga K c) = true ∧ _ := fun c hc => Bool.and_eq_true_iff.mp (List.all_eq_true.mp h c hc)
  refine ⟨fun c hc => excCB_ok (at_ c hc).1, h1, fun c hc y hy => ?_, fun c hc y hy => ?_⟩
  · exact of_decide_eq_true (List.all_eq_true.mp (Bool.and_eq_true_iff.mp (at_ c hc).2).1 y hy)
  · exact of_decide_eq_true (List.all_eq_true.mp (Bool.and_eq_true_iff.mp (at_ c hc).2).2 y hy)
section
variable {P : Program} {w : World} {K : PySem.W.Frag} {mg : Str → Option Value} {base : Heap} {x f1 f2 : Str} {st : Stmt} {fd : FuncData}
theorem xc1 (h : madeB x K = true) (g : mg x = some (.ref (He.ga K x))) (nf : PySem.W.findIn K (.ref (He.ga K x)) f1 = some none) (F : FunD K "__init__" (x ++ ".__init__") (defArgs st) (defBody st) (defScope st) [] [] (He.ma K (He.ga K x) "__init__") fd) (S : FnScope ["self", f1] ["self", f1] (defScope st))
    (bn : ∀ (kV doc pm : Value) (an : Option Addr) (cdv ct : Value) (us : List Value), us.length = 2 → bindArgs (PySem.W.fnOf "__init__" (x ++ ".__init__") (defArgs st) (defBody st) (defScope st) .none kV doc pm an cdv ct) ⟨us, []⟩ = pure ([("self" : Str), f1].zip us))
    (hb : ∀ (C f : Addr) (cdv : Value) (A : Around) (outer : List Env) (s : Shared) (H : Hp) (E : XK), PSs (cxOf (L2N.CX P w) P w K mg base ["self", f1] (x ++ ".__init__") (defScope st) f cdv A outer s H E) (defBody st) (tOst K f1 (tVar 0) (tVar 1))) : Xc P w K mg base x [f1] := by
  obtain ⟨h1, h⟩ := Bool.and_eq_true_iff.mp h
  obtain ⟨h2, h3⟩ := Bool.and_eq_true_iff.mp h
  exact ⟨_, _, fd, g, oexB_ok h1, of_decide_eq_true h2, of_decide_eq_true h3, F.ok S (fun vs H Q E h => spI_len h) fun cdv A outer s H vs Q E hr h => ⟨_, hb (He.ga K x) _ cdv A outer s H E, init1 (oexB_ok h1) nf h⟩, F.bindsN (ps := [("self" : Str), f1]) bn⟩
theorem xc2 (h : madeB x K = true) (g : mg x = some (.ref (He.ga K x))) (nf : PySem.W.findIn K (.ref (He.ga K x)) f1 = some none) (nf2 : PySem.W.findIn K (.ref (He.ga K x)) f2 = some none) (F : FunD K "__init__" (x ++ ".__init__") (defArgs st) (defBody st) (defScope st) [] [] (He.ma K (He.ga K x) "__init__") fd) (S : FnScope ["self", f1, f2] ["self", f1, f2] (defScope st))
    (bn : ∀ (kV doc pm : Value) (an : Option Addr) (cdv ct : Value) (us : List Value), us.length = 3 → bindArgs (PySem.W.fnOf "__init__" (x ++ ".__init__") (defArgs st) (defBody st) (defScope st) .none kV doc pm an cdv ct) ⟨us, []⟩ = pure ([("self" : Str), f1, f2].zip us))
    (hb : ∀ (C f : Addr) (cdv : Value) (A : Around) (outer : List Env) (s : Shared) (H : Hp) (E : XK), PSs (cxOf (L2N.CX P w) P w K mg base ["self", f1, f2] (x ++ ".__init__") (defScope st) f cdv A outer s H E) (defBody st) (tSeq (tOst K f1 (tVar 0) (tVar 1)) (tOst K f2 (tVar 0) (tVar 2)))) : Xc P w K mg base x [f1, f2] := by
  obtain ⟨h1, h⟩ := Bool.and_eq_true_iff.mp h
  obtain ⟨h2, h3⟩ := Bool.and_eq_true_iff.mp h
  exact ⟨_, _, fd, g, oexB_ok h1, of_decide_eq_true h2, of_decide_eq_true h3, F.ok S (fun vs H Q E h => spI_len h) fun cdv A outer s H vs Q E hr h => ⟨_, hb (He.ga K x) _ cdv A outer s H E, init2 (oexB_ok h1) nf nf2 h⟩, F.bindsN (ps := [("self" : Str), f1, f2]) bn⟩
end
/-! ### a def that makes lambdas -/
def FdL (K : PySem.W.Frag) (mg : Str → Option Value) (x : Str) (st : Stmt) : Prop := ∃ fd, FunD K x x (defArgs st) (defBody st) (defScope st) [] [] (He.fAd K (x, none)) fd ∧ mg x = some (.ref (He.fAd K (x, none)))
def TabX (K : PySem.W.Frag) (mg : Str → Option Value) (base : Heap) (x : Str) : Prop := LamX.TabB base mg (He.cT K (x, none)).1 (He.cT K (x, none)).2
section
variable [RowT]
theorem mkr_of {X : Cx} {g : G Bx} {x : Str} (hG : GOk.ok X.K g.itp g.T) (TB : TabX X.K X.mg X.base x) (nd : ((tabsOf X.K).map (·.1)).Nodup) (hcode : X.env.code = .ref (He.codeOf X.K (x, none))) (hq : X.env.qual = x ++ ".<locals>." := by rfl) (hm : ((x, none) : Str × Option Str) ∈ RowT.tf := by decide) :
    Mkr X g (He.cT X.K (x, none)).1 (He.cT X.K (x, none)).2 ((x ++ ".<locals>.") ++ "<lambda>") := by
  have hT : g.T = tabsOf X.K := hG.2
  exact ⟨TB, hcode, by rw [hq], by rw [hT]; exact List.mem_map.mpr ⟨_, hm, rfl⟩, by rw [hT]; exact nd⟩
theorem dx_mkL {γ : Type} [GOk γ] {P : Program} {w : World} {K : PySem.W.Frag} {mg : Str → Option Value} {base : Heap} {x : Str} {st : Stmt} {ps : List Str} (N : List Str) {k : Nat} {mb : M γ Fl} (F : FdL K mg x st) (S : FnScope N ps (defScope st))
    (bn : ∀ (kV doc pm : Value) (an : Option Addr) (cdv ct : Value) (us : List Value), us.length = ps.length → bindArgs (PySem.W.fnOf x x (defArgs st) (defBody st) (defScope st) .none kV doc pm an cdv ct) ⟨us, []⟩ = pure (ps.zip us))
    (hb : ∀ (f : Addr) (cdv : Value) (A : Around) (outer : List Env) (s : Shared) (H : Hp) (E : XK) (g : G γ), GOk.ok K g.itp g.T → Room k (A.deeper (PyProof.Rows.envOfC x (defScope st) s.heap.objs.size f cdv)) → cdv = .ref (He.codeOf K (x, none)) → PSSM (cxOf (L2N.CX P w) P w K mg base N x (defScope st) f cdv A outer s H E) g (fun c d _ H => E c d H) (defBody st) mb) :
    Dx P w K mg base (k + 1) x st ps (runDef N.length mb) := by
  obtain ⟨fd, F, gl⟩ := F
  refine ⟨_, fd, ⟨F, gl, ?_⟩, F.bindsN bn⟩
  obtain ⟨oc, od, dV, kV, doc, pm, an, cdv, ct, osl, rfl, lk, hcd, _, _⟩ := F.ex
  obtain ⟨c, ec⟩ := He.codeIn_ref hcd
  have e2 : cdv = .ref (He.codeOf K (x, none)) := by rw [He.codeOf_eq lk (c := c) ec]; exact ec
  exact fn_of lk hcd S (fun vs H Q E h => spOf_len vs H Q E h) fun A outer s H vs Q E hr ⟨g, H0, b, ds, hG, hn, r0, rs, h⟩ => ⟨_, hb _ cdv A outer s H E g hG hr e2, body_ok r0 rs h⟩
/-! ### the end -/
theorem tabs_nodup {K : PySem.W.Frag} (h : decide ((RowT.tf.map fun p => (He.cT K p).2).Nodup) = true) : ((tabsOf K).map (·.1)).Nodup := by
  have := of_decide_eq_true h
  unfold tabsOf
  rw [List.map_map]
  exact this
theorem bltB_ok {K : PySem.W.Frag} {h : Heap} {mg : Str → Option Value} (X : K.In h) (G : h.Ns mainGlobals mg) {x : Str} {id : String} (c : bltB x id K = true) : mg x = some (.builtin id) := by
  unfold bltB at c
  cases q : PySem.W.nsIn K mainGlobals x with
  | none => rw [q] at c; cases c
  | some r =>
    cases r with
    | none => rw [q] at c; cases c
    | some u =>
      rw [q] at c
      cases u with
      | builtin i =>
        have e : i = id := of_decide_eq_true c
        rw [← e]
        exact PySem.W.mg_of X G q
      | _ => cases c
theorem fd_of {fa : List He.Fa} {fn : List He.DefD} {K : PySem.W.Frag} {h : Heap} {mg : Str → Option Value} (X : K.In h) (G : h.Ns mainGlobals mg) (c : He.SaysD fa fn K) {x : Str} {st : Stmt} (i j : Nat) (hi : fn[i]? = some (defD x st) := by rfl) (hj : fa[j]? = some (.glo x) := by rfl) : Fd K mg x st := by
  obtain ⟨fd, F⟩ := c.def_ i hi
  exact ⟨_, fd, F, He.glo_ok X G (c.fact j hj)⟩
theorem fdL_of {fa : List He.Fa} {fn : List He.DefD} {K : PySem.W.Frag} {h : Heap} {mg : Str → Option Value} (X : K.In h) (G : h.Ns mainGlobals mg) (c : He.SaysD fa fn K) {x : Str} {st : Stmt} (i j : Nat) (hi : fn[i]? = some (defD x st) := by rfl) (hj : fa[j]? = some (.glo x) := by rfl) : FdL K mg x st := by
  obtain ⟨fd, F⟩ := c.def_ i hi
  exact ⟨fd, F, He.glo_ok X G (c.fact j hj)⟩
theorem fr_of {fa : List He.Fa} {fn : List He.DefD} {K : PySem.W.Frag} {h : Heap} {mg : Str → Option Value} (X : K.In h) (G : h.Ns mainGlobals mg) (c : He.SaysD fa fn K) {x : Str} (j : Nat) (hj : fa[j]? = some (.free x) := by rfl) : mg x = none := He.free_ok X G (c.fact j hj)
theorem gl_of {fa : List He.Fa} {fn : List He.DefD} {K : PySem.W.Frag} {h : Heap} {mg : Str → Option Value} (X : K.In h) (G : h.Ns mainGlobals mg) (c : He.SaysD fa fn K) {ys : List Str} (hj : ∀ y ∈ ys, He.Fa.glo y ∈ fa) : ∀ y ∈ ys, mg y = some (.ref (He.ga K y)) := fun y hy => He.glo_ok X G (c.facts (hj y hy))
theorem allB_at {xs : List (PySem.W.Frag → Bool)} {K : PySem.W.Frag} (c : allB xs K = true) (i : Nat) {x : PySem.W.Frag → Bool} (h : xs[i]? = some x := by rfl) : x K = true := List.all_eq_true.mp c x (List.mem_of_getElem? h)
/-- the law's promise where its tables stand -/
theorem lawAt {l : PySem.W.OpenLaw} {w : World} {K : PySem.W.Frag} {k n : Nat} {x : Str} {mg : Str → Option Value} {fa : Addr} {h : Heap} {faL : List He.Fa} {fn : List He.DefD} {ts : List He.Tab} {ex : PySem.W.Frag → Bool} (KX : K.In h) (hn : n ≤ 63) (c : He.SaysX faL fn ts RowT.tf ex w h K)
    (F : ∃ fd : FuncData, (∀ (s : Shared) (u : Value), BindsTo s fd ⟨[u], []⟩ [(x, u)]) ∧ ∀ base : Heap, K.In base → base.Ns mainGlobals mg → (∀ p ∈ RowT.tf, LamX.TabB base mg (He.cT K p).1 (He.cT K p).2) → FnOk l.prog w K mg base (L2N.CX l.prog w) k fa fd [x] (spLaw K)) : LamX.LawAtS l w K (L2N.CX l.prog w) k n x mg fa h := by
  obtain ⟨fd, hb, hF⟩ := F
  refine ⟨fd, RowT.tf.map (He.cT K), spLaw K, fun p hp => ?_, fun p hp => ?_, fun p hp => ?_, hb, fun H a ns hl _ ht hs => ⟨a, ns, rfl, hs, Nat.le_trans hl hn, fun p hp => ?_, fun _ => rfl⟩, fun base k1 k2 k3 => hF base k1 k2 fun p hp => k3 _ (List.mem_map.mpr ⟨p, hp, rfl⟩)⟩
  · obtain ⟨q, hq, rfl⟩ := List.mem_map.mp hp
    exact c.empty q hq
  · obtain ⟨q, hq, rfl⟩ := List.mem_map.mp hp
    exact c.out q hq
  · obtain ⟨q, hq, rfl⟩ := List.mem_map.mp hp
    exact PySem.W.codeHd_of_K KX (c.hd q hq)
  · unfold tabsOf at hp
    obtain ⟨q, hq, rfl⟩ := List.mem_map.mp hp
    exact ht _ (List.mem_map.mpr ⟨q, hq, rfl⟩)
end
end DL

set_option Elab.async false
set_option linter.all false
set_option maxRecDepth 100000
set_option maxHeartbeats 4000000
namespace DL
open PySem PySem.Spec PyProof.Rows L2 L2H
/-! ### data without the box -/
mutual
def nbx : D → Bool
  | .non => true
  | .bl _ => true
  | .int _ => true
  | .str _ => true
  | .tup ds => nbxs ds
  | .lst ds => nbxs ds
  | .box => false
  | .dct ds => nbxK ds
  | .exc _ fs => nbxF fs
  | .ins _ fs => nbxF fs
def nbxs : List D → Bool
  | [] => true
  | d :: ds => nbx d && nbxs ds
def nbxK : List (Key × D) → Bool
  | [] => true
  | d :: ds => nbx d.2 && nbxK ds
def nbxF : List (Str × D) → Bool
  | [] => true
  | d :: ds => nbx d.2 && nbxF ds
end
theorem nbxs_at : ∀ {ds : List D} {i : Nat} {d : D}, nbxs ds = true → ds[i]? = some d → nbx d = true
  | [], _, _, _, h => by simp at h
  | e :: ds, 0, d, h, hd => by
    unfold nbxs at h
    simp at hd
    rw [← hd]; exact (Bool.and_eq_true_iff.mp h).1
  | e :: ds, i + 1, d, h, hd => by
    unfold nbxs at h
    exact nbxs_at (Bool.and_eq_true_iff.mp h).2 (by simpa using hd)
theorem nbxK_at : ∀ {ds : List (Key × D)} {i : Nat} {d : D}, nbxK ds = true → (ds.map (·.2))[i]? = some d → nbx d = true
  | [], _, _, _, h => by simp at h
  | e :: ds, 0, d, h, hd => by
    unfold nbxK at h
    simp at hd
    rw [← hd]; exact (Bool.and_eq_true_iff.mp h).1
  | e :: ds, i + 1, d, h, hd => by
    unfold nbxK at h
    exact nbxK_at (i := i) (Bool.and_eq_true_iff.mp h).2 (by simpa using hd)
theorem nbxF_at : ∀ {ds : List (Str × D)} {i : Nat} {d : D}, nbxF ds = true → (ds.map (·.2))[i]? = some d → nbx d = true
  | [], _, _, _, h => by simp at h
  | e :: ds, 0, d, h, hd => by
    unfold nbxF at h
    simp at hd
    rw [← hd]; exact (Bool.and_eq_true_iff.mp h).1
  | e :: ds, i + 1, d, h, hd => by
    unfold nbxF at h
    exact nbxF_at (i := i) (Bool.and_eq_true_iff.mp h).2 (by simpa using hd)
theorem Rep.rebox {K : PySem.W.Frag} {bx : Addr} {H : Hp} {v : V} {d : D} (r : Rep K bx H v d) : nbx d = true → ∀ bx', Rep K bx' H v d := by
  induction r with
  | non => exact fun _ _ => .non
  | bl => exact fun _ _ => .bl
  | int => exact fun _ _ => .int
  | str => exact fun _ _ => .str
  | tup h l _ ih => exact fun n bx' => .tup h l fun i v d h1 h2 => ih i v d h1 h2 (nbxs_at (by unfold nbx at n; exact n) h2) bx'
  | lst h l _ ih => exact fun n bx' => .lst h l fun i v d h1 h2 => ih i v d h1 h2 (nbxs_at (by unfold nbx at n; exact n) h2) bx'
  | box => exact fun n => by unfold nbx at n; cases n
  | dct h l _ ih => exact fun n bx' => .dct h l fun i v d h1 h2 => ih i v d h1 h2 (nbxK_at (by unfold nbx at n; exact n) h2) bx'
  | exc h h1 h2 h3 h4 h5 l _ ih => exact fun n bx' => .exc h h1 h2 h3 h4 h5 l fun i v d k1 k2 => ih i v d k1 k2 (nbxF_at (by unfold nbx at n; exact n) k2) bx'
  | ins h h1 h2 l _ ih => exact fun n bx' => .ins h h1 h2 l fun i v d k1 k2 => ih i v d k1 k2 (nbxF_at (by unfold nbx at n; exact n) k2) bx'
theorem Reps.rebox {K : PySem.W.Frag} {bx : Addr} {H : Hp} {vs : List V} {ds : List D} (r : Reps K bx H vs ds) (n : nbxs ds = true) (bx' : Addr) : Reps K bx' H vs ds := ⟨r.len, fun i v d h1 h2 => (r.get i v d h1 h2).rebox (nbxs_at n h2) bx'⟩
theorem nbxF_s : ∀ {fs : List (Str × D)}, nbxF fs = true → nbxs (fs.map (·.2)) = true
  | [], _ => rfl
  | e :: fs, h => by
    unfold nbxF at h
    obtain ⟨h1, h2⟩ := Bool.and_eq_true_iff.mp h
    show (nbx e.2 && nbxs (fs.map (·.2))) = true
    rw [h1, nbxF_s h2]; rfl
/-! ### an instance while it is made: self is the box, its attributes so far the state -/
structure IB (c : Str) where
  fs : List (Str × D)
def insItp (K : PySem.W.Frag) (c : Str) (dx : Addr) (H0 : Hp) (b : IB c) (o : HO) : Prop := ∃ vs, o = .ins (He.ga K c) dx vs ∧ vs.map (·.1) = b.fs.map (·.1) ∧ ∀ bx, Reps K bx H0 (vs.map (·.2)) (b.fs.map (·.2))
theorem insMono {K : PySem.W.Frag} {c : Str} {dx : Addr} {H H' : Hp} {b : IB c} {o : HO} (e : Ex H H') (h : insItp K c dx H b o) : insItp K c dx H' b o := by
  obtain ⟨vs, h1, h2, h4⟩ := h
  exact ⟨vs, h1, h2, fun bx => (h4 bx).mono e⟩
instance (c : Str) : GOk (IB c) := ⟨fun K i T => (∃ dx, i = insItp K c dx) ∧ T = []⟩
section
variable {X : Cx} {CX : CXT} {k : Nat} {f C : Addr} {fd : FuncData} {ps : List Str} {sp : Sp} {dvs : List V} {ds : List Value} {E : L2.St → XK} {x : Str} {p pos : Pos} {e : Expr} {es : List Expr} {t : TA}
def tMakeSD (C : Addr) (sp : Sp) (E : L2.St → XK) (t : TA) : TE := fun σ H Q => t σ H fun vs H1 => ∀ x dx, H1 x = none → H1 dx = none → dx ≠ x → sp (.ref x :: vs) (upd (upd H1 dx (.own x)) x (.ins C dx [])) (fun v H2 => v = .non ∧ Q (.ref x) H2) (E σ)
theorem run_makeSD {pins : List (Addr × Obj)} {σ : L2.St} {H : Hp} {s : Shared} {Q : VK} {us : List Value} {vs : List V} (M : Mk X.K C f) (F : FnOk X.prog X.w X.K X.mg X.base CX k f fd ps sp) (hr : Room (k + 1) X.A) (hb : Binds X.K fd ps [])
    (hx : PassesAt CX X σ (E σ)) (I : Inv X pins σ H s) (r : Vals vs us)
    (h : ∀ x dx, H x = none → H dx = none → dx ≠ x → sp (.ref x :: vs) (upd (upd H dx (.own x)) x (.ins C dx [])) (fun v H2 => v = .non ∧ Q (.ref x) H2) (E σ)) :
    wpAny (model X.prog X.w) X.A (call (.ref C) us) (EP X pins σ Q) X.xe s := by
  have hq := h (s.heap.objs.size + 1) s.heap.objs.size (I.hok.fresh (Nat.le_succ _)) (I.hok.fresh (Nat.le_refl _)) (Nat.ne_of_lt (Nat.lt_succ_self _))
  have I2 := Inv.made (C := C) I
  have r2 : Vals (V.ref (s.heap.objs.size + 1) :: vs) (Value.ref (s.heap.objs.size + 1) :: us) := .cons rfl r
  have hl : (Value.ref (s.heap.objs.size + 1) :: us ++ []).length = ps.length := by
    have e := r2.length
    rw [F.len _ _ _ _ hq] at e
    rw [List.append_nil]
    exact e.symm
  have bd := hb _ (Value.ref (s.heap.objs.size + 1) :: us) I2.kIn hl
  rw [List.append_nil] at bd
  refine wpAny_call (make_map (f := f) I.kIn M.makes M.init (beq_iff_eq.mp M.fn) (codeAny_mono (F.run _ X.stack _ _ ⟨Value.ref (s.heap.objs.size + 1) :: us, []⟩ (Value.ref (s.heap.objs.size + 1) :: us) _ _ (E σ) (hr.make C us [])
    (I2.env0.make C us []) bd r2 hq) fun r s' hq' => ?_))
  cases r with
  | error e => exact hx pins _ _ e s' I2 hq'
  | ok fl =>
    cases fl with
    | ret u =>
      obtain ⟨v, H', I3, rv, ev, q3⟩ := I2.after hq'
      subst ev
      exact ⟨rv, ⟨V.ref (s.heap.objs.size + 1), H', I3, rfl, q3⟩⟩
    | next => exact False.elim hq'
    | brk => exact False.elim hq'
    | cont => exact False.elim hq'
theorem pe_makeSD (M : Mk X.K C f) (F : FnOk X.prog X.w X.K X.mg X.base CX k f fd ps sp) (hr : Room (k + 1) X.A) (hg : Gl X x) (hm : X.mg x = some (.ref C)) (hb : Binds X.K fd ps []) (hx : ∀ σ, PassesAt CX X σ (E σ))
    (ha : PA X (e :: es) t) (hdb : (x == ("__debug__" : Str)) = false := by decide) (he : starEach (e :: es) X.env = (false, eval e X.env) :: starEach es X.env := by rfl) (hpl : (backTo pos (starEach es X.env)).any (·.1) = false := by rfl) :
    PE X (.Call (.Name x p) (e :: es) [] pos) (tMakeSD C sp E t) := by
  refine ⟨fun pins s σ H Q I h => ?_⟩
  refine wpAny_Call_Name_kw (ld_glob I hg hm ?_ hdb)
  refine PySem.W.callWith_K (h₀ := X.base) I.ok.mod.kin M.kp (thn (ha.run pos pins s σ H _ I h) fun us s1 ⟨vs, H1, I1, r, q⟩ => ⟨I1.kIn, ?_⟩) he hpl
  exact run_makeSD M F hr hb (hx σ) I1 r q
end
/-! ### C(..): its mirror -/
section
variable {β : Type} {X : Cx} {g : G β} {W : WX} {e : Expr} {es : List Expr} {ms : M β (List Arg)} {pos p : Pos} {c : Str} {k k' : Nat} {σ : L2.St} {H : Hp} {Q : VK}
def mkP (c : Str) : Out (IB c) RV → M β RV
  | .ok (.v .non) b => mIte (nbxF b.fs) (mret (.v (.ins c b.fs))) mbad
  | .exc x _ => mIte (nbxF x.fs) (fun s => .exc x s) mbad
  | _ => mbad
def makeM (c : Str) (n : Nat) (md : DefM (IB c)) (ms : M β (List Arg)) : M β RV := mbind ms fun as => mIte (as.length == n && noB as) (mbind (rsl as) fun ds => mIte (nbxs ds) (mkP c (md (.box :: ds) ⟨[]⟩)) mbad) mbad
theorem make_in {K : PySem.W.Frag} {mg : Str → Option Value} {n : Nat} {md : DefM (IB c)} {H1 H2 : Hp} {s1 : S β} {vs : List V} {ds : List D} (R : Rel K g H1 σ H2 s1) (rs : Reps K g.bx H1 vs ds) (hn : ds.length = n) (hb : nbxs ds = true)
    (h : (mkP (β := β) c (md (.box :: ds) ⟨[]⟩) s1).on (ResP K g H1 σ Q) (Esc K mg g W H1 σ)) (x dx : Addr) (hx : H2 x = none) (hdx : H2 dx = none) (ne : dx ≠ x) :
    spOf K mg (n + 1) md (.ref x :: vs) (upd (upd H2 dx (.own x)) x (.ins (He.ga K c) dx [])) (fun v H3 => v = .non ∧ Q (.ref x) H3) (fun c d H => W c d σ H) := by
  have hx1 : H1 x = none := R.r0.sub.back hx
  have hdx1 : H1 dx = none := R.r0.sub.back hdx
  generalize hHn : upd (upd H2 dx (.own x)) x (.ins (He.ga K c) dx []) = Hn
  have nx : Hn x = some (.ins (He.ga K c) dx []) := by rw [← hHn, upd_same]
  have nd : Hn dx = some (.own x) := by rw [← hHn, upd_ne ne, upd_same]
  have e2n : Ex H2 Hn := fun a o q => by
    rw [← hHn, upd_ne (ne_of_none q hx), upd_ne (ne_of_none q hdx)]; exact q
  have e1n : Ex H1 Hn := R.r0.sub.trans e2n
  have key : ∀ (H3 H4 : Hp) (b : IB c), Ex H1 H3 → Rel0 (⟨x, insItp K c dx, insMono, frameOf x H1 Hn, []⟩ : G (IB c)) H3 H4 b → Ex H2 H4 ∧ (∀ a o, H3 a = some o → H1 a = some o ∨ H2 a = none) ∧ H3 x = none ∧ H3 dx = none ∧ H4 dx = some (.own x) := fun H3 H4 b e1 r1 => by
    have fd : frameOf x H1 Hn dx = some (.own x) := by rw [frameOf_at ne hdx1]; exact nd
    refine ⟨fun a u q => frameOf_keep e1n e1 r1.sub r1.frm a u (ne_of_none q hx) (e2n a u q), fun a o q => ?_, r1.bxn, r1.dis dx _ fd, r1.frm dx _ fd⟩
    cases q1 : H1 a with
    | some o' =>
      have := e1 a o' q1
      rw [q] at this
      exact .inl this.symm
    | none =>
      refine .inr ?_
      cases q2 : H2 a with
      | none => rfl
      | some u =>
        have f : frameOf x H1 Hn a = some u := by rw [frameOf_at (ne_of_none q2 hx) q1]; exact e2n a u q2
        have := r1.dis a u f
        rw [q] at this; cases this
  refine ⟨⟨x, insItp K c dx, insMono, frameOf x H1 Hn, []⟩, H1, ⟨[]⟩, .box :: ds, ⟨⟨dx, rfl⟩, rfl⟩, by rw [List.length_cons, hn], ⟨e1n, frameOf_sub, frameOf_dis, hx1, frameOf_bx, ⟨_, nx, [], rfl, rfl, fun bx => .nil⟩, TabsR.nil⟩, .cons .box (rs.rebox hb x), ?_⟩
  revert h
  cases md (.box :: ds) ⟨[]⟩ with
  | bad => exact fun h => h.elim
  | exc xx b =>
    intro h cc dd H3 H4 e1 r1 Xr
    obtain ⟨k1, k2, _, _, _⟩ := key H3 H4 b e1 r1
    cases hb2 : nbxF xx.fs with
    | false =>
      have h : (mIte (nbxF xx.fs) (fun s => Out.exc xx s) (mbad : M β RV) s1).on (ResP K g H1 σ Q) (Esc K mg g W H1 σ) := h
      rw [hb2] at h; exact h.elim
    | true =>
      have h : (mIte (nbxF xx.fs) (fun s => Out.exc xx s) (mbad : M β RV) s1).on (ResP K g H1 σ Q) (Esc K mg g W H1 σ) := h
      rw [hb2] at h
      obtain ⟨z1, d, fs, z2, z3, z4, z5⟩ := Xr
      exact h cc dd H3 H4 e1 (R.grow e1 k1 r1.sub k2) ⟨z1, d, fs, z2, z3, z4, z5.rebox (nbxF_s hb2) _⟩
  | ok r b =>
    intro h v H3 H4 e1 r1 rr
    obtain ⟨k1, k2, k3, k4, k5⟩ := key H3 H4 b e1 r1
    cases r with
    | o _ => exact h.elim
    | v d =>
      cases d with
      | non =>
        have h : (mIte (nbxF b.fs) (mret (.v (.ins c b.fs))) (mbad : M β RV) s1).on (ResP K g H1 σ Q) (Esc K mg g W H1 σ) := h
        cases hb2 : nbxF b.fs with
        | false => rw [hb2] at h; exact h.elim
        | true =>
          rw [hb2] at h
          have rr : Rep K x H3 v .non := rr
          cases rr
          refine ⟨rfl, ?_⟩
          obtain ⟨o, h4, ws, rfl, w1, w2⟩ := r1.it
          have h4 : H4 x = some (.ins (He.ga K c) dx ws) := h4
          have e33 : Ex H3 (upd (upd H3 dx (.own x)) x (.ins (He.ga K c) dx ws)) := fun a o q => by
            rw [upd_ne (ne_of_none q k3), upd_ne (ne_of_none q k4)]; exact q
          refine h (.ref x) (upd (upd H3 dx (.own x)) x (.ins (He.ga K c) dx ws)) H4 (e1.trans e33) (R.grow (e1.trans e33) k1 (fun a o q => ?_) fun a o q => ?_) (.ins (dx := dx) (vs := ws) upd_same rfl (by rw [upd_ne ne, upd_same]) w1 ((w2 g.bx).mono e33).get) trivial
          · by_cases ha : a = x
            · rw [ha, upd_same] at q
              rw [ha, ← q]; exact h4
            · rw [upd_ne ha] at q
              by_cases hd : a = dx
              · rw [hd, upd_same] at q
                rw [hd, ← q]; exact k5
              · rw [upd_ne hd] at q
                exact r1.sub a o q
          · by_cases ha : a = x
            · rw [ha]; exact .inr hx
            · rw [upd_ne ha] at q
              by_cases hd : a = dx
              · rw [hd]; exact .inr hdx
              · rw [upd_ne hd] at q
                exact k2 a o q
      | _ => exact h.elim
/-- a class that is made by its name -/
def Dc (P : Program) (w : World) (K : PySem.W.Frag) (mg : Str → Option Value) (base : Heap) (k : Nat) (c : Str) (st : Stmt) (ps : List Str) (md : DefM (IB c)) : Prop :=
  ∃ f fd, Mk K (He.ga K c) f ∧ FunD K "__init__" (c ++ ".__init__") (defArgs st) (defBody st) (defScope st) [] [] f fd ∧ mg c = some (.ref (He.ga K c)) ∧ FnOk P w K mg base (L2N.CX P w) k f fd (("self" : Str) :: ps) (spOf K mg (ps.length + 1) md) ∧ Binds K fd (("self" : Str) :: ps) []
theorem e_make {n : Nat} {ps : List Str} {md : DefM (IB c)} {st : Stmt} (F : Dc X.prog X.w X.K X.mg X.base k c st ps md) (hr : Room k' X.A) (tk : L2N.Takes X W) (ha : PABM X g W (e :: es) ms) (hk : k + 1 ≤ k' := by decide) (hg : Gl X c := by rfl)
    (hdb : (c == ("__debug__" : Str)) = false := by decide) (he : starEach (e :: es) X.env = (false, eval e X.env) :: starEach es X.env := by rfl) (hpl : (backTo pos (starEach es X.env)).any (·.1) = false := by rfl) (hn : ps.length = n := by rfl) : PEM X g W (.Call (.Name c p) (e :: es) [] pos) (makeM c n md ms) := by
  subst hn
  obtain ⟨f, fd, M, FD, gl, F, bn⟩ := F
  refine PE.imp (pe_makeSD (E := fun σ c d H => W c d σ H) M F (hr.mono hk) hg gl bn (fun σ => L2N.passAt tk σ) ha hdb he hpl) fun σ H Q h => ?_
  obtain ⟨H0, s, R, h⟩ := h
  unfold makeM at h
  rw [on_bind] at h
  refine ⟨H0, s, R, Out.on_imp h (fun as s1 h vs H1 H2 e1 R1 ra x dx hx hdx ne => ?_) fun _ _ q => q⟩
  cases hl : (as.length == ps.length && noB as) with
  | false => rw [hl] at h; exact h.elim
  | true =>
    rw [hl] at h
    obtain ⟨l1, l2⟩ := Bool.and_eq_true_iff.mp hl
    have h : (mbind (rsl as) (fun ds => mIte (nbxs ds) (mkP c (md (.box :: ds) ⟨[]⟩)) mbad) s1).on _ _ := h
    rw [on_bind, on_rsl] at h
    obtain ⟨ds, eds, h⟩ := h
    cases hb : nbxs ds with
    | false => rw [hb] at h; exact h.elim
    | true =>
      rw [hb] at h
      have rs := res_plain ra l2 eds
      exact make_in R1 rs (by rw [← rs.len, ra.len]; exact of_decide_eq_true l1) hb (Out.on_imp h (fun r s2 q v H3 H4 e2 R2 rr ap => q v H3 H4 (e1.trans e2) R2 rr ap) fun _ _ q => q.back e1) x dx hx hdx ne
end
end DL

set_option Elab.async false
set_option linter.all false
set_option maxRecDepth 100000
set_option maxHeartbeats 4000000
namespace DL
open PySem PySem.Spec PyProof.Rows L2 L2H
/-! ### attributes of instances: read; set while self is made -/
structure InsF (K : PySem.W.Frag) (xs : XS) : Prop where
  cls : ∀ c ∈ xs, Cls K (He.ga K c.1)
  noa : ∀ c ∈ xs, ∀ f ∈ c.2, NoAttr K (He.ga K c.1) f
section
variable {β : Type} {X : Cx} {g : G β} {W : WX} {o e : Expr} {m : M β RV} {pos p p' : Pos} {c f x : Str}
def atO (xs : XS) (f : Str) : D → Option RV
  | .ins c fs => (xs.lookup c).bind fun l => if f ∈ l then (fs.lookup f).map RV.v else none
  | _ => none
def atM (xs : XS) (f : Str) (m : M β RV) : M β RV := mbind m fun r => opt (atO xs f r.d)
theorem e_at (xs : XS) (T : InsF X.K xs) (h : PEM X g W e m) (hb : attributeBase e f X.env (eval e X.env) = eval e X.env := by rfl) : PEM X g W (.Attribute e f pos) (atM xs f m) := PE.imp (pe_fld h.d hb) fun σ H Q ⟨H0, s, R, q⟩ => by
  unfold atM at q
  rw [on_bind] at q
  refine ⟨H0, s, R, Out.on_imp q (fun r s1 q v H1 H2 e1 R1 r1 => ?_) fun _ _ q => q⟩
  rw [on_opt] at q
  obtain ⟨rz, ez, q⟩ := q
  unfold atO at ez
  split at ez
  · rename_i c fs hd
    rw [hd] at r1
    cases hl : xs.lookup c with
    | none => rw [hl] at ez; cases ez
    | some l =>
      rw [hl, Option.bind_some] at ez
      by_cases hm : f ∈ l
      · rw [if_pos hm] at ez
        cases hf : fs.lookup f with
        | none => rw [hf] at ez; cases ez
        | some d =>
          rw [hf] at ez
          cases ez
          have hx := mem_look hl
          cases r1 with
          | ins k0 k1 k2 k3 k4 =>
            obtain ⟨u, hu, ru⟩ := lookup_reps k3 k4 hf
            exact ⟨_, _, _, _, u, rfl, R1.r0.sub _ _ k0, by rw [k1]; exact T.cls _ hx, by rw [k1]; exact T.noa _ hx f hm, hu, q u H1 H2 e1 R1 ru trivial⟩
      · rw [if_neg hm] at ez; cases ez
  · cases ez
def gAt (K : PySem.W.Frag) (to : TE) (f : Str) : TG := fun v σ H Q => to σ H fun x H1 => ∃ a C dx fs, x = .ref a ∧ H1 a = some (.ins C dx fs) ∧ Cls K C ∧ NoAttr K C f ∧ fs.length < 1000 ∧ Q σ (upd H1 a (.ins C dx (putF f v fs)))
theorem pg_at {to : TE} (ho : PE X o to) : PG X (.Attribute o f pos) (gAt X.K to f) := by
  refine ⟨fun pins s σ H v u Q I r h => ?_⟩
  rw [assign_Attribute]
  refine wpAny_bind (wpAny_holding (thn (ho.run pins s σ H _ I h) fun ov s1 ⟨x, H1, I1, r1, a, C, dx, fs, ex, ea, c, n, l, q⟩ => ?_))
  subst ex
  obtain rfl : ov = Value.ref a := r1
  refine wpAny_bind (wpAny_standAt (wpAny_bind (wpAny_holding (setattr_ok I1 ea c n l r fun s3 I3 => ?_))))
  exact wpAny_release ⟨σ, _, I3, q⟩
def putD (f : Str) (d : D) : List (Str × D) → List (Str × D)
  | [] => [(f, d)]
  | (g, x) :: r => if g = f then (g, d) :: r else (g, x) :: putD f d r
theorem put_ok {K : PySem.W.Frag} {bx : Addr} {H : Hp} {f : Str} {v : V} {d : D} (rv : Rep K bx H v d) : ∀ {fs : List (Str × V)} {ds : List (Str × D)}, fs.map (·.1) = ds.map (·.1) → Reps K bx H (fs.map (·.2)) (ds.map (·.2)) → (putF f v fs).map (·.1) = (putD f d ds).map (·.1) ∧ Reps K bx H ((putF f v fs).map (·.2)) ((putD f d ds).map (·.2))
  | [], [], _, _ => ⟨rfl, .cons rv .nil⟩
  | (a, x) :: fs, (b, y) :: ds, h, r => by
    simp only [List.map_cons, List.cons.injEq] at h
    obtain ⟨h1, h2⟩ := h
    have h1 : a = b := h1
    subst h1
    obtain ⟨w, ws, e, rw_, rs⟩ := r.cases_cons
    simp only [List.map_cons, List.cons.injEq] at e
    obtain ⟨e1, e2⟩ := e
    subst e1 e2
    obtain ⟨k1, k2⟩ := put_ok (f := f) rv h2 rs
    unfold putF putD
    by_cases q : a = f
    · rw [if_pos q, if_pos q]
      exact ⟨by simp [h2], .cons rv rs⟩
    · rw [if_neg q, if_neg q]
      exact ⟨by simp [k1], .cons rw_ k2⟩
  | [], _ :: _, h, _ => by simp at h
  | _ :: _, [], h, _ => by simp at h
/-- self.f, self the box -/
def atS (c : Str) (l : List Str) (i : Nat) (f : Str) : D → M (IB c) Unit := fun d s => match s.sl[i]?, nbx d, decide (f ∈ l), decide (s.bx.fs.length < 100) with
  | some (.v .box), true, true, true => .ok () { s with bx := ⟨putD f d s.bx.fs⟩ }
  | _, _, _, _ => .bad
theorem g_at {g : G (IB c)} {l : List Str} {xs : XS} (i : Nat) (T : InsF X.K xs) (hG : GOk.ok X.K g.itp g.T) (hc : (c, l) ∈ xs := by decide) (hN : X.N[i]? = some x := by rfl) (hv : Vis X.env.scope x := by first | exact Or.inl rfl | exact Or.inr (Or.inl rfl) | exact Or.inr (Or.inr rfl))
    (hd : (x == ("__debug__" : Str)) = false := by decide) (hcd : (x == ("__classdict__" : Str)) = false := by decide) : PGM X g [] (.Attribute (.Name x p) f pos) (atS c l i f) := PG.imp (pg_at (pe_var (i := i) hN hv hd hcd)) fun v σ H Q ⟨H0, s, d, R, r, q⟩ => by
  unfold atS at q
  cases h1 : s.sl[i]? with
  | none => rw [h1] at q; exact q.elim
  | some k =>
    rw [h1] at q
    cases k with
    | no => exact q.elim
    | o _ => exact q.elim
    | v dd =>
      cases dd with
      | box =>
        cases h2 : nbx d with
        | false => rw [h2] at q; exact q.elim
        | true =>
          by_cases h3 : f ∈ l
          · by_cases h4 : s.bx.fs.length < 100
            · rw [h2, decide_eq_true h3, decide_eq_true h4] at q
              have hi : i < σ.length := by rw [← R.len]; exact (List.getElem?_eq_some_iff.mp h1).1
              obtain ⟨y, e1, ry⟩ := R.slot i _ σ[i] h1 (by simp [hi])
              cases ry
              obtain ⟨⟨dx, hi2⟩, hT⟩ := hG
              obtain ⟨o, ho, hit⟩ := R.r0.it
              rw [hi2] at hit
              obtain ⟨vs, rfl, w1, w2⟩ := hit
              refine ⟨.ref g.bx, by simp [hi, e1], g.bx, He.ga X.K c, dx, vs, rfl, ho, T.cls _ hc, T.noa _ hc f h3, ?_, ?_⟩
              · have : vs.length = s.bx.fs.length := by have := congrArg List.length w1; simpa using this
                omega
              · have nb : ∀ a u, a ≠ g.bx → H a = some u → upd H g.bx (.ins (He.ga X.K c) dx (putF f v vs)) a = some u := fun a u h e => by rw [upd_ne h]; exact e
                have R2 : Rel X.K g H0 σ (upd H g.bx (.ins (He.ga X.K c) dx (putF f v vs))) { s with bx := ⟨putD f d s.bx.fs⟩ } := R.step (Ex.refl _) (fun a o h _ e => nb a o h e) (fun a o e => by
                    by_cases ha : a = g.bx
                    · subst ha; rw [R.r0.bxn] at e; cases e
                    · exact nb a o ha (R.r0.sub a o e)) (fun a o e => .inl e) ⟨_, upd_same, by
                    rw [hi2]
                    exact ⟨putF f v vs, rfl, (put_ok (f := f) r w1 (w2 g.bx)).1, fun bx => (put_ok (f := f) (r.rebox h2 bx) w1 (w2 bx)).2⟩⟩ (R.r0.tb.keep (fun _ _ _ h => h) (fun _ _ _ h => h) fun a o h _ e => nb a o h e)
                exact q σ H0 _ .refl (Ex.refl _) R2
            · rw [decide_eq_false h4, decide_eq_true h3, h2] at q; exact q.elim
          · rw [decide_eq_false h3, h2] at q; exact q.elim
      | _ => exact q.elim
end
end DL

set_option Elab.async false
set_option linter.all false
set_option maxRecDepth 100000
set_option maxHeartbeats 4000000
namespace DL
open PySem PySem.Spec PyProof.Rows L2 L2H
/-! ### methods of instances; a staticmethod by its class -/
section
variable {X : Cx} {CX : CXT} {k : Nat} {f C p0 : Addr} {fd : FuncData} {ps : List Str} {sp : Sp} {E : L2.St → XK} {x m : Str} {p pos apos : Pos} {e o : Expr} {es : List Expr} {ta : TE} {t : TA} {mc : Value}
def tMethSD (C : Addr) (m : Str) (sp : Sp) (E : L2.St → XK) (ta : TE) (t : TA) : TE := fun σ H Q => ta σ H fun x H1 => ∃ a dx fs, x = .ref a ∧ H1 a = some (.ins C dx fs) ∧ fs.lookup m = none ∧
  t σ H1 fun vs H2 => sp (x :: vs) H2 Q (E σ)
theorem pe_methSD {pl : Sem Bool} (he : PE X o ta) (c : Cls X.K C) (hm : Meth X.K C m f) (F : FnOk X.prog X.w X.K X.mg X.base CX k f fd ps sp) (hr : Room k X.A) (hb : Binds X.K fd ps []) (hx : ∀ σ, PassesAt CX X σ (E σ)) (ha : PA X (e :: es) t)
    (hst : starEach (e :: es) X.env = (false, eval e X.env) :: starEach es X.env := by rfl) (hpl : (backTo pos (starEach es X.env)).any (·.1) = false := by rfl)
    (ht : eval (.Call (.Attribute o m apos) (e :: es) [] pos) X.env = (do
      let ov ← eval o X.env
      standAt apos.atName
      let (f, first) ← holding [ov] (getMethod ov m pl)
      callWith pos f first (backTo pos (starEach (e :: es) X.env)) (backToKw pos (keywordEach [] X.env))) := by rfl) :
    PE X (.Call (.Attribute o m apos) (e :: es) [] pos) (tMethSD C m sp E ta t) := by
  refine ⟨fun pins s σ H Q I h => ?_⟩
  refine PySem.W.methodCall_KW (pl := pl) (thn (he.run pins s σ H _ I h) fun u s1 ⟨x, H1, I1, rx, a, dx, fs, ex, ea, l, q⟩ => ?_) ht
  subst ex
  obtain rfl : u = Value.ref a := rx
  refine getmeth_ok I1 ea c hm l ?_
  refine PySem.W.callWith_K (first := [.ref a]) (h₀ := X.base) I.ok.mod.kin hm.kp (thn (ha.run pos pins s1 σ H1 _ I1 q) fun us s2 ⟨vs, H2, I2, r, q2⟩ => ⟨I2.kIn, ?_⟩) hst hpl
  exact run_fnSD (us := .ref a :: us) (vs := .ref a :: vs) F hr hb .nil (hx σ) I2 (.cons rfl r) (by rw [List.append_nil]; exact q2)
theorem pe_methSD0 {pl : Sem Bool} (he : PE X o ta) (c : Cls X.K C) (hm : Meth X.K C m f) (F : FnOk X.prog X.w X.K X.mg X.base CX k f fd ps sp) (hr : Room k X.A) (hb : Binds X.K fd ps []) (hx : ∀ σ, PassesAt CX X σ (E σ))
    (ht : eval (.Call (.Attribute o m apos) [] [] pos) X.env = (do
      let ov ← eval o X.env
      standAt apos.atName
      let (f, first) ← holding [ov] (getMethod ov m pl)
      callWith pos f first (backTo pos (starEach [] X.env)) (backToKw pos (keywordEach [] X.env))) := by rfl) :
    PE X (.Call (.Attribute o m apos) [] [] pos) (tMethSD C m sp E ta tNil) := by
  refine ⟨fun pins s σ H Q I h => ?_⟩
  refine PySem.W.methodCall_KW (pl := pl) (thn (he.run pins s σ H _ I h) fun u s1 ⟨x, H1, I1, rx, a, dx, fs, ex, ea, l, q⟩ => ?_) ht
  subst ex
  obtain rfl : u = Value.ref a := rx
  refine getmeth_ok I1 ea c hm l ?_
  exact PySem.W.callWith_K0 (first := [.ref a]) I1.kIn hm.kp (run_fnSD (us := [.ref a]) (vs := [.ref a]) F hr hb .nil (hx σ) I1 (.cons rfl .nil) (by rw [List.append_nil]; exact q))
/-- C's staticmethod m: the object at p0 around the def at f -/
structure SMet (K : PySem.W.Frag) (C : Addr) (mc : Value) (m : Str) (p0 f : Addr) : Prop where
  at_ : PySem.W.findCls K (.ref C) mc m = some (.get (.builtin "staticmethod.__get__") (.ref p0) .none (.ref C))
  rc : ∃ rest, PySem.W.recIn K p0 "staticmethod" = some (.ref f :: rest)
  kp : PySem.W.keepIn K (.ref f) = true
theorem getmethsm_ok {A : Around} {E' : Value → Shared → Prop} {pl : Sem Bool} {pins : List (Addr × Obj)} {σ : L2.St} {H : Hp} {s : Shared} {Q : Value × List Value → Shared → Prop} (I : Inv X pins σ H s) (r : ClX.CRead X.K C mc) (k : SMet X.K C mc m p0 f) (h : ∀ s', Inv X pins σ H s' → Q (.ref f, []) s') :
    wpAny (model X.prog X.w) A (getMethod (.ref C) m pl) Q E' s := by
  obtain ⟨rest, hrc⟩ := k.rc
  exact PySem.W.method_cls I.kIn r.ga (PySem.W.cls_bind I.kIn r.rd k.at_ (wpAny_call (PySem.W.sm_get (s := { s with toks := s.toks + 1 }) I.kIn hrc (PySem.W.handed_on rfl (h _ (I.tok _))))))
theorem pe_smethSD {pl : Sem Bool} (hg : Gl X x) (hm : X.mg x = some (.ref C)) (r : ClX.CRead X.K C mc) (c : SMet X.K C mc m p0 f) (F : FnOk X.prog X.w X.K X.mg X.base CX k f fd ps sp) (hr : Room k X.A) (hb : Binds X.K fd ps []) (hx : ∀ σ, PassesAt CX X σ (E σ)) (ha : PA X (e :: es) t)
    (hdb : (x == ("__debug__" : Str)) = false := by decide) (hst : starEach (e :: es) X.env = (false, eval e X.env) :: starEach es X.env := by rfl) (hpl : (backTo pos (starEach es X.env)).any (·.1) = false := by rfl)
    (ht : eval (.Call (.Attribute (.Name x p) m apos) (e :: es) [] pos) X.env = (do
      let ov ← eval (.Name x p) X.env
      standAt apos.atName
      let (f, first) ← holding [ov] (getMethod ov m pl)
      callWith pos f first (backTo pos (starEach (e :: es) X.env)) (backToKw pos (keywordEach [] X.env))) := by rfl) :
    PE X (.Call (.Attribute (.Name x p) m apos) (e :: es) [] pos) (tCallSD sp [] E t) := by
  refine ⟨fun pins s σ H Q I h => ?_⟩
  refine PySem.W.methodCall_KW (pl := pl) (ld_glob I hg hm ?_ hdb) ht
  refine getmethsm_ok I r c fun s2 I2 => ?_
  refine PySem.W.callWith_K (first := []) (h₀ := X.base) I.ok.mod.kin c.kp (thn (ha.run pos pins s2 σ H _ I2 h) fun us s3 ⟨vs, H2, I3, rv, q2⟩ => ⟨I3.kIn, ?_⟩) hst hpl
  exact run_fnSD F hr hb .nil (hx σ) I3 rv q2
end
end DL

set_option Elab.async false
set_option linter.all false
set_option maxRecDepth 100000
set_option maxHeartbeats 4000000
namespace DL
open PySem PySem.Spec PyProof.Rows L2 L2H
/-! ### methods, staticmethods, keywords: their mirrors -/
theorem fn_mk {γ : Type} [GOk γ] {P : Program} {w : World} {K : PySem.W.Frag} {mg : Str → Option Value} {base : Heap} {x qual : Str} {st : Stmt} {ps : List Str} {f : Addr} {fd : FuncData} (N : List Str) {k : Nat} {mb : M γ Fl} (F : FunD K x qual (defArgs st) (defBody st) (defScope st) [] [] f fd) (S : FnScope N ps (defScope st))
    (hb : ∀ (f : Addr) (cdv : Value) (A : Around) (outer : List Env) (s : Shared) (H : Hp) (E : XK) (g : G γ), GOk.ok K g.itp g.T → Room k (A.deeper (envOfC qual (defScope st) s.heap.objs.size f cdv)) → PSSM (cxOf (L2N.CX P w) P w K mg base N qual (defScope st) f cdv A outer s H E) g (fun c d _ H => E c d H) (defBody st) mb) :
    FnOk P w K mg base (L2N.CX P w) (k + 1) f fd ps (spOf K mg ps.length (runDef N.length mb)) :=
  F.ok S (fun vs H Q E h => spOf_len vs H Q E h) fun cdv A outer s H vs Q E hr ⟨g, H0, b, ds, hG, hn, r0, rs, h⟩ => ⟨_, hb f cdv A outer s H E g hG hr, body_ok r0 rs h⟩
abbrev KwQ (x qual : Str) (st : Stmt) (ps : List Str) (n : Nat) (ks : List Str) (pi : List Nat) : Prop := ∀ (kV doc pm : Value) (an : Option Addr) (cdv ct : Value) (us ws : List Value), us.length = n → ws.length = ks.length →
  bindArgs (PySem.W.fnOf x qual (defArgs st) (defBody st) (defScope st) .none kV doc pm an cdv ct) ⟨us, ks.zip ws⟩ = pure (ps.zip (perm pi (us ++ ws)))
theorem kwBQ {K : PySem.W.Frag} {x qual : Str} {st : Stmt} {ps ks : List Str} {f : Addr} {fd : FuncData} {n : Nat} {pi : List Nat} (F : FunD K x qual (defArgs st) (defBody st) (defScope st) [] [] f fd) (h : KwQ x qual st ps n ks pi) : KwB K fd ps n ks pi := by
  obtain ⟨oc, od, dV, kV, doc, pm, an, cdv, ct, osl, rfl, lk, hcd, hD, hK⟩ := F.ex
  rcases hD with ⟨_, rfl⟩ | ⟨e, _⟩
  · exact fun s us ws _ l1 l2 => .of_eq (h kV doc pm an cdv ct us ws l1 l2)
  · exact absurd rfl e
/-- a method; a staticmethod -/
def Dm (P : Program) (w : World) (K : PySem.W.Frag) (mg : Str → Option Value) (base : Heap) (k : Nat) (c m : Str) (st : Stmt) (ps : List Str) (md : DefM Unit) : Prop :=
  ∃ f fd, FunD K m (c ++ "." ++ m) (defArgs st) (defBody st) (defScope st) [] [] f fd ∧ Cls K (He.ga K c) ∧ Meth K (He.ga K c) m f ∧ FnOk P w K mg base (L2N.CX P w) k f fd (("self" : Str) :: ps) (spOf K mg (ps.length + 1) md) ∧ Binds K fd (("self" : Str) :: ps) []
def Dsm (P : Program) (w : World) (K : PySem.W.Frag) (mg : Str → Option Value) (base : Heap) (k : Nat) (c m : Str) (st : Stmt) (ps : List Str) (md : DefM Unit) : Prop :=
  ∃ f fd p0, FunD K m (c ++ "." ++ m) (defArgs st) (defBody st) (defScope st) [] [] f fd ∧ mg c = some (.ref (He.ga K c)) ∧ ClX.CRead K (He.ga K c) (.type "type") ∧ SMet K (He.ga K c) (.type "type") m p0 f ∧ FnOk P w K mg base (L2N.CX P w) k f fd ps (spOf K mg ps.length md) ∧ Binds K fd ps []
section
variable {β : Type} {X : Cx} {g : G β} {W : WX} {e o : Expr} {es : List Expr} {kws : List Keyword} {mo : M β RV} {ms mk : M β (List Arg)} {pos p apos : Pos} {c m x : Str} {k k' : Nat} {σ : L2.St} {H : Hp} {Q : VK} {st : Stmt} {ps ks : List Str} {md : DefM Unit}
def isIns (c m : Str) : D → Bool
  | .ins c' fs => decide (c' = c) && (fs.lookup m).isNone
  | _ => false
def methM (c m : Str) (n : Nat) (md : DefM Unit) (mo : M β RV) (ms : M β (List Arg)) : M β RV := mbind mo fun r => mIte (isIns c m r.d) (callP (n + 1) md (mbind ms fun as => mret (.v r.d :: as))) mbad
theorem look_none {K : PySem.W.Frag} {bx : Addr} {H : Hp} {f : Str} : ∀ {fs : List (Str × V)} {ds : List (Str × D)}, fs.map (·.1) = ds.map (·.1) → ds.lookup f = none → fs.lookup f = none
  | [], [], _, _ => rfl
  | (a, v) :: fs, (b, d) :: ds, h, hl => by
    simp only [List.map_cons, List.cons.injEq] at h
    obtain ⟨h1, h2⟩ := h
    have h1 : a = b := h1
    subst h1
    rw [List.lookup_cons] at hl ⊢
    cases q : (f == a) with
    | true => rw [q] at hl; cases hl
    | false => rw [q] at hl; exact look_none (K := K) (bx := bx) (H := H) h2 hl
  | [], _ :: _, h, _ => by simp at h
  | _ :: _, [], h, _ => by simp at h
theorem meth_use {K : PySem.W.Frag} {mg : Str → Option Value} {n : Nat} (h : tE K mg g W (methM c m n md mo ms) σ H Q) : tD K mg g W mo σ H fun x H1 => ∃ a dx fs, x = .ref a ∧ H1 a = some (.ins (He.ga K c) dx fs) ∧ fs.lookup m = none ∧
    tAB K mg g W ms σ H1 fun vs H2 => spOf K mg (n + 1) md (x :: vs) H2 Q (fun c d H => W c d σ H) := by
  obtain ⟨H0, s, R, h⟩ := h
  unfold methM at h
  rw [on_bind] at h
  refine ⟨H0, s, R, Out.on_imp h (fun r s1 h v H1 H2 e1 R1 r1 => ?_) fun _ _ q => q⟩
  generalize r.d = d at r1 h
  cases d with
  | ins c' fs =>
    cases hi : isIns c m (.ins c' fs) with
    | false => rw [hi] at h; exact h.elim
    | true =>
      rw [hi] at h
      have hc : (callP (n + 1) md (mbind ms fun as => mret (.v (.ins c' fs) :: as)) s1).on _ _ := h
      have hi : (decide (c' = c) && (fs.lookup m).isNone) = true := hi
      obtain ⟨i1, i2⟩ := Bool.and_eq_true_iff.mp hi
      have i1 := of_decide_eq_true i1
      subst i1
      have i2 : fs.lookup m = none := Option.isNone_iff_eq_none.mp i2
      have rv := r1
      cases r1 with
      | @ins a C dx vs _ _ k0 k1 k2 k3 k4 =>
        subst k1
        refine ⟨a, dx, vs, rfl, R1.r0.sub _ _ k0, look_none (K := K) (bx := g.bx) (H := H1) k3 i2, ?_⟩
        unfold callP at hc
        rw [on_bind, on_bind] at hc
        refine ⟨H1, s1, R1, Out.on_imp hc (fun as s2 h ws H3 H4 e2 R2 ra => ?_) fun _ _ q => q.back e1⟩
        have h : (mIte ((Arg.v (.ins c' fs) :: as).length == n + 1) (mbind (rsl (.v (.ins c' fs) :: as)) fun ds => outP (.v (.ins c' fs) :: as) (md ds ())) mbad s2).on _ _ := h
        cases hl : ((Arg.v (.ins c' fs) :: as).length == n + 1) with
        | false => rw [hl] at h; exact h.elim
        | true =>
          rw [hl] at h
          have h : (mbind (rsl (.v (.ins c' fs) :: as)) (fun ds => outP (.v (.ins c' fs) :: as) (md ds ())) s2).on _ _ := h
          rw [on_bind, on_rsl] at h
          obtain ⟨ds, eds, h⟩ := h
          have ra2 : ArgsR K g H3 σ (.ref a :: ws) (.v (.ins c' fs) :: as) := .cons (rv.mono e2) ra
          exact spP R2 ra2 (by rw [ra2.len]; exact of_decide_eq_true hl) eds (Out.on_imp h (fun r s3 q v H5 H6 e3 R3 rr ap => q v H5 H6 ((e1.trans e2).trans e3) R3 rr ap) fun _ _ q => q.back (e1.trans e2))
  | _ => exact h.elim
theorem e_meth {n : Nat} {pl : Sem Bool} (F : Dm X.prog X.w X.K X.mg X.base k c m st ps md) (hr : Room k' X.A) (tk : L2N.Takes X W) (ho : PEM X g W o mo) (ha : PABM X g W (e :: es) ms) (hk : k ≤ k' := by decide)
    (hst : starEach (e :: es) X.env = (false, eval e X.env) :: starEach es X.env := by rfl) (hpl : (backTo pos (starEach es X.env)).any (·.1) = false := by rfl)
    (ht : eval (.Call (.Attribute o m apos) (e :: es) [] pos) X.env = (do
      let ov ← eval o X.env
      standAt apos.atName
      let (f, first) ← holding [ov] (getMethod ov m pl)
      callWith pos f first (backTo pos (starEach (e :: es) X.env)) (backToKw pos (keywordEach [] X.env))) := by rfl) (hn : ps.length = n := by rfl) : PEM X g W (.Call (.Attribute o m apos) (e :: es) [] pos) (methM c m n md mo ms) := by
  subst hn
  obtain ⟨f, fd, FD, cl, me, F, bn⟩ := F
  exact PE.imp (pe_methSD (pl := pl) (E := fun σ c d H => W c d σ H) ho.d cl me F (hr.mono hk) bn (fun σ => L2N.passAt tk σ) ha hst hpl ht) fun σ H Q h => meth_use h
theorem e_meth0 {pl : Sem Bool} (F : Dm X.prog X.w X.K X.mg X.base k c m st [] md) (hr : Room k' X.A) (tk : L2N.Takes X W) (ho : PEM X g W o mo) (hk : k ≤ k' := by decide)
    (ht : eval (.Call (.Attribute o m apos) [] [] pos) X.env = (do
      let ov ← eval o X.env
      standAt apos.atName
      let (f, first) ← holding [ov] (getMethod ov m pl)
      callWith pos f first (backTo pos (starEach [] X.env)) (backToKw pos (keywordEach [] X.env))) := by rfl) : PEM X g W (.Call (.Attribute o m apos) [] [] pos) (methM c m 0 md mo (mret [])) := by
  obtain ⟨f, fd, FD, cl, me, F, bn⟩ := F
  refine PE.imp (pe_methSD0 (pl := pl) (E := fun σ c d H => W c d σ H) ho.d cl me F (hr.mono hk) bn (fun σ => L2N.passAt tk σ) ht) fun σ H Q h => ?_
  obtain ⟨H0, s, R, h⟩ := meth_use h
  refine ⟨H0, s, R, Out.on_imp h (fun r s1 h v H1 H2 e1 R1 r1 => ?_) fun _ _ q => q⟩
  obtain ⟨a, dx, fs, h1, h2, h3, H3, s3, R3, h4⟩ := h v H1 H2 e1 R1 r1
  exact ⟨a, dx, fs, h1, h2, h3, h4 [] H3 H2 (Ex.refl _) R3 .nil⟩
theorem e_smeth {n : Nat} {pl : Sem Bool} (F : Dsm X.prog X.w X.K X.mg X.base k c m st ps md) (hr : Room k' X.A) (tk : L2N.Takes X W) (ha : PABM X g W (e :: es) ms) (hk : k ≤ k' := by decide) (hg : Gl X c := by rfl) (hdb : (c == ("__debug__" : Str)) = false := by decide)
    (hst : starEach (e :: es) X.env = (false, eval e X.env) :: starEach es X.env := by rfl) (hpl : (backTo pos (starEach es X.env)).any (·.1) = false := by rfl)
    (ht : eval (.Call (.Attribute (.Name c p) m apos) (e :: es) [] pos) X.env = (do
      let ov ← eval (.Name c p) X.env
      standAt apos.atName
      let (f, first) ← holding [ov] (getMethod ov m pl)
      callWith pos f first (backTo pos (starEach (e :: es) X.env)) (backToKw pos (keywordEach [] X.env))) := by rfl) (hn : ps.length = n := by rfl) : PEM X g W (.Call (.Attribute (.Name c p) m apos) (e :: es) [] pos) (callP n md ms) := by
  subst hn
  obtain ⟨f, fd, p0, FD, gl, cr, me, F, bn⟩ := F
  exact PE.imp (pe_smethSD (pl := pl) (E := fun σ c d H => W c d σ H) hg gl cr me F (hr.mono hk) bn (fun σ => L2N.passAt tk σ) ha hdb hst hpl ht) fun σ H Q h => callP_sp h
end
end DL

set_option Elab.async false
set_option linter.all false
set_option maxRecDepth 100000
set_option maxHeartbeats 4000000
namespace DL
open PySem PySem.Spec PyProof.Rows L2 L2H
/-! ### isinstance(x, C), C a class of the module -/
structure IsC (K : PySem.W.Frag) (mg : Str → Option Value) (c : Str) (cs : List Str) : Prop where
  gl : mg c = some (.ref (He.ga K c))
  cl : ∀ d ∈ cs, Cls K (He.ga K d) ∧ PySem.W.findIn K (.ref (He.ga K d)) "__class__" = some (some (.builtin "object.__class__")) ∧ PySem.W.mroIn K (He.ga K d) (.type "object") = some true
  hn : PySem.W.specialIn K (.builtin "object.__class__") "__get__" = some (some (.builtin "getset_descriptor.__get__"))
  ht : PySem.W.takesIn K (.builtin "object.__class__") = some true
  kit : ∀ d ∈ cs, PySem.W.kitOne K (.ref (He.ga K d)) (.ref (He.ga K c)) = some (decide (d = c))
  kitB : ∀ t ∈ tyNames, PySem.W.kitOne K (.type t) (.ref (He.ga K c)) = some false
def isoO (c : Str) (cs : List Str) : D → Option RV
  | .ins d _ => if d ∈ cs then some (.v (.bl (decide (d = c)))) else none
  | e => (tyD e).map fun _ => .v (.bl false)
section
variable {β : Type} {X : Cx} {g : G β} {W : WX} {e a b : Expr} {m ma mb : M β RV} {pos p q : Pos} {c : Str}
theorem e_isO (cs : List Str) (T : IsC X.K X.mg c cs) (hI : X.mg "isinstance" = none) (h : PEM X g W e m) (hg : Gl X "isinstance" := by rfl) (hgc : Gl X c := by rfl) (hdc : (c == ("__debug__" : Str)) = false := by decide)
    (he : starEach [e, .Name c q] X.env = (false, eval e X.env) :: starEach [.Name c q] X.env := by rfl) (he2 : starEach [.Name c q] X.env = (false, eval (.Name c q) X.env) :: starEach [] X.env := by rfl) (hpl : (backTo pos (starEach [.Name c q] X.env)).any (·.1) = false := by rfl) :
    PEM X g W (.Call (.Name "isinstance" p) [e, .Name c q] [] pos) (eUn (isoO c cs) m) :=
  PE.imp (pe_callB call_isi hg hI PyProof.Rows.boot_isinstance (pa_cons h.d (pa_cons (pe_glob (v := .ref (He.ga X.K c)) hgc T.gl rfl hdc) pa_nil he2) he) (he := he) (hpl := hpl)) fun σ H Q ⟨H0, s, R, z⟩ => by
    unfold eUn at z
    rw [on_bind] at z
    refine ⟨H0, s, R, Out.on_imp z (fun r s1 z v H1 H2 e1 R1 r1 => ?_) fun _ _ q => q⟩
    rw [on_opt] at z
    obtain ⟨rz, ez, z⟩ := z
    generalize r.d = d at r1 ez
    have fin : ∀ A, tyD d = some A → isoO c cs d = (tyD d).map (fun _ => .v (.bl false)) → rIsi X.K [v, .ref (He.ga X.K c)] H2 Q := fun A hA ei => by
      rw [ei, hA] at ez
      cases ez
      obtain ⟨ty, hm⟩ := ty_cont (r1.cont R1.r0.sub) R1.r0.sub hA
      exact ⟨v, .ref (He.ga X.K c), _, _, _, rfl, .own _, ty, T.kitB _ hm, z _ H1 H2 e1 R1 .bl trivial⟩
    cases d with
    | ins dd fs =>
      have ez : (if dd ∈ cs then some (RV.v (.bl (decide (dd = c)))) else none) = some rz := ez
      by_cases hm : dd ∈ cs
      · rw [if_pos hm] at ez
        cases ez
        cases r1 with
        | ins k0 k1 k2 k3 k4 =>
          subst k1
          obtain ⟨t1, t2, t3⟩ := T.cl _ hm
          exact ⟨_, .ref (He.ga X.K c), _, _, _, rfl, .own _, .base (.ins (R1.r0.sub _ _ k0) t1 t2 T.hn T.ht t3), T.kit _ hm, z _ H1 H2 e1 R1 .bl trivial⟩
      · rw [if_neg hm] at ez; cases ez
    | box => cases ez
    | exc _ _ => cases ez
    | non => exact fin _ rfl rfl
    | bl _ => exact fin _ rfl rfl
    | int _ => exact fin _ rfl rfl
    | str _ => exact fin _ rfl rfl
    | tup _ => exact fin _ rfl rfl
    | lst _ => exact fin _ rfl rfl
    | dct _ => exact fin _ rfl rfl
/-! ### x == y by the class's own __eq__ -/
def isO (c : Str) : D → Bool
  | .ins d _ => decide (d = c)
  | _ => false
def rEqO (K : PySem.W.Frag) (mg : Str → Option Value) (C : Addr) (md : DefM Unit) : R2 := fun x y H Q => ∃ a b dx dy fs gs, x = .ref a ∧ y = .ref b ∧ H a = some (.ins C dx fs) ∧ H b = some (.ins C dy gs) ∧
  spOf K mg 2 md [.ref a, .ref b] H (fun v H' => (∃ k, v = .bl k) ∧ Q v H') fun _ _ _ => False
theorem op_eqO {k : Nat} {C f : Addr} {fd : FuncData} {ps : List Str} {md : DefM Unit} (F : FnOk X.prog X.w X.K X.mg X.base (L2N.CX X.prog X.w) k f fd ps (spOf X.K X.mg 2 md)) (hs : PySem.W.findIn X.K (.ref C) "__eq__" = some (some (.ref f))) (hf : PySem.W.isFn X.K (.ref f) = true) (hb : Binds X.K fd ps []) (hr : Room k X.A) :
    OpR X (compareOp .Eq) (rEqO X.K X.mg C md) := by
  intro pins s σ H x y u v Q I rx ry ⟨a, b, dx, dy, fs, gs, ex, ey, ha, hb', hsp⟩
  subst ex ey
  cases rx
  cases ry
  show wpAny (model X.prog X.w) X.A (richCompare .Eq (.ref a) (.ref b)) (EP X pins σ Q) X.xe s
  obtain ⟨mA, J, _⟩ := ins_get I.hok ha
  obtain ⟨mB, J', _⟩ := ins_get I.hok hb'
  obtain ⟨od, J, _⟩ := J.look
  obtain ⟨od', J', _⟩ := J'.look
  obtain ⟨m, hF⟩ := I.fr
  refine PySem.W.cmp_K (op := .Eq) (tb := .ref C) hr.units0 hF I.ok.mod.kin J J'.type (by simp [PySem.W.notFirst]) hs hf ?_
  have hl := F.len _ _ _ _ hsp
  have r2 : Vals [V.ref a, V.ref b] [Value.ref a, Value.ref b] := .cons rfl (.cons rfl .nil)
  refine wpAny_call (codeAny_mono (F.run X.A X.stack s H ⟨[.ref a, .ref b], []⟩ [.ref a, .ref b] [.ref a, .ref b] _ (fun _ _ _ => False) hr I.env0 (by
    have := hb s [.ref a, .ref b] I.kIn (by simpa using hl)
    simpa using this) r2 hsp) fun r s' hq => ?_)
  cases r with
  | error e => exact passN pins σ H s e s' I hq
  | ok fl =>
    cases fl with
    | ret w =>
      obtain ⟨z, H', I', rz, ⟨kk, ez⟩, ex⟩ := I.after hq
      subst ez
      cases rz
      exact ⟨.bl kk, H', I', rfl, ex⟩
    | next => exact False.elim hq
    | brk => exact False.elim hq
    | cont => exact False.elim hq
/-- .. its mirror: the method must not raise, and must answer a bool -/
def eqM (c : Str) (md : DefM Unit) (ma mb : M β RV) : M β RV := mbind ma fun x => mbind mb fun y => mIte (isO c x.d && isO c y.d) (fun s => match md [x.d, y.d] () with
  | .ok (.v (.bl k)) _ => .ok (.v (.bl k)) s
  | _ => .bad) mbad
theorem e_eqO {k k' : Nat} {st : Stmt} {md : DefM Unit} (F : Dm X.prog X.w X.K X.mg X.base k c "__eq__" st ["other"] md) (hr : Room k' X.A) (ha : PEM X g W a ma) (hb : PEM X g W b mb) (hk : k ≤ k' := by decide) (hbm : behindInMarks .Eq b = false := by first | exact nobehind _ (by decide) (by decide) | rfl) : PEM X g W (.Compare a [.Eq] [b] pos) (eqM c md ma mb) := by
  obtain ⟨f, fd, FD, cl, me, F, bn⟩ := F
  refine PE.imp (pe_cmpR (op_eqO F me.at_ me.fn bn (hr.mono hk)) ha.d hb.d hbm) fun σ H Q ⟨H0, s, R, q⟩ => ?_
  unfold eqM at q
  rw [on_bind] at q
  refine ⟨H0, s, R, Out.on_imp q (fun x s1 q v H1 H2 e1 R1 r1 => ?_) fun _ _ q => q⟩
  rw [on_bind] at q
  refine ⟨H1, s1, R1, Out.on_imp q (fun y s2 q u H3 H4 e2 R2 r2 => ?_) fun _ _ q => q.back e1⟩
  generalize x.d = d1 at r1 q
  generalize y.d = d2 at r2 q
  cases hi : (isO c d1 && isO c d2) with
  | false => rw [hi] at q; exact q.elim
  | true =>
    rw [hi] at q
    have q3 : (match md [d1, d2] () with
      | .ok (.v (.bl k)) _ => Out.ok (RV.v (.bl k)) s2
      | _ => .bad : Out (S β) RV).on _ _ := q
    obtain ⟨i1, i2⟩ := Bool.and_eq_true_iff.mp hi
    cases d1 with
    | ins c1 f1 =>
      cases d2 with
      | ins c2 f2 =>
        have i1 : c1 = c := of_decide_eq_true i1
        have i2 : c2 = c := of_decide_eq_true i2
        subst i1
        subst i2
        have rx := r1.mono e2
        cases r1 with
        | @ins a1 C1 dx1 vs1 _ _ k0 k1 k2 k3 k4 =>
          have ry := r2
          cases r2 with
          | @ins a2 C2 dx2 vs2 _ _ l0 l1 l2 l3 l4 =>
            subst k1 l1
            refine ⟨a1, a2, dx1, dx2, vs1, vs2, rfl, rfl, R2.r0.sub _ _ (e2 _ _ k0), R2.r0.sub _ _ l0, ?_⟩
            cases hm : md [.ins c2 f1, .ins c2 f2] () with
            | bad => rw [hm] at q3; exact q3.elim
            | exc x b => rw [hm] at q3; exact q3.elim
            | ok r b =>
              rw [hm] at q3
              cases r with
              | o _ => exact q3.elim
              | v dd =>
                cases dd with
                | bl kk =>
                  refine spP (g := g) (W := fun _ _ _ _ => False) (as := [.v (.ins c2 f1), .v (.ins c2 f2)]) (ds := [.ins c2 f1, .ins c2 f2]) R2 (.cons rx (.cons ry .nil)) rfl rfl ?_
                  rw [hm]
                  exact fun v H5 H6 e3 R3 rr ap => by
                    have rr : Rep X.K g.bx H5 v (.bl kk) := rr
                    cases rr
                    exact ⟨⟨kk, rfl⟩, q3 _ H5 H6 ((e1.trans e2).trans e3) R3 .bl trivial⟩
                | _ => exact q3.elim
      | _ => cases i2
    | _ => cases i1
end
end DL

set_option Elab.async false
set_option linter.all false
set_option maxRecDepth 100000
set_option maxHeartbeats 4000000
namespace DL
open PySem PySem.Spec PyProof.Rows L2 L2H
/-! ### join, insert, items as targets -/
def strsOf : List D → Option (List Str)
  | [] => some []
  | .str x :: ds => (strsOf ds).map (x :: ·)
  | _ => none
theorem strs_rep {K : PySem.W.Frag} {bx : Addr} {H : Hp} : ∀ {ds : List D} {vs : List V} {ys : List Str}, strsOf ds = some ys → Reps K bx H vs ds → vs = ys.map V.str
  | [], vs, ys, h, r => by
    cases h
    exact r.cases_nil
  | d :: ds, vs, ys, h, r => by
    obtain ⟨v, ws, rfl, rv, rs⟩ := r.cases_cons
    cases d with
    | str x =>
      have h : (strsOf ds).map (x :: ·) = some ys := h
      rw [Option.map_eq_some_iff] at h
      obtain ⟨zs, hz, rfl⟩ := h
      cases rv
      rw [strs_rep hz rs]
      rfl
    | _ => cases h
def joinF (a : Str) : D → Option RV
  | .lst ds => (strsOf ds).bind fun ys => if (ys.map (·.length)).sum + ys.length * a.length ≤ 16777216 then some (.v (.str (Txt.join a ys))) else none
  | _ => none
theorem sm_join {X : Cx} : Sm1 X "join" joinF := ⟨_, _, PySem.F.slot_str_join, PySem.F.type_str_join, mt_join, fun bx H0 H a v d rz Q sub r e k => by
  unfold joinF at e
  split at e
  · rename_i ds
    rw [Option.bind_eq_some_iff] at e
    obtain ⟨ys, hy, e⟩ := e
    split at e
    · rename_i hz
      cases e
      cases r with
      | lst h l z =>
        have := strs_rep hy ⟨l, z⟩
        subst this
        exact ⟨a, _, ys, rfl, rfl, .inl (.of (sub _ _ h)), hz, k.val sub .str⟩
    · cases e
  · cases e⟩
def insertF : List D → List D → Option (D × List D)
  | ds, [.int i, d] => if ds.length < sizeLine ∧ 0 ≤ i ∧ i < 2 ^ 63 then some (.non, ds.take i.toNat ++ [d] ++ ds.drop i.toNat) else none
  | _, _ => none
theorem m_insert {X : Cx} : Met X "insert" insertF := ⟨_, _, PySem.F.slot_list_insert, PySem.F.type_list_insert, mt_insert, fun bx H0 H l vs ds avs as d ds' Q sub hl rs ra e k => by
  unfold insertF at e
  split at e
  · split at e
    · rename_i i d1 hz
      cases e
      obtain ⟨v1, ws, rfl, r1, rs1⟩ := ra.cases_cons
      obtain ⟨v2, rfl, r2⟩ := rs1.cases1
      cases r1
      exact ⟨l, vs, i, v2, rfl, rfl, hl, by rw [rs.len]; exact hz.1, hz.2.1, hz.2.2, k _ _ .non (((rs.take _).append (.one r2)).append (rs.drop _))⟩
    · cases e
  · cases e⟩
section
variable {β : Type} {X : Cx} {g : G β} {b : Expr} {mi : M β RV} {x : Str} {p pos' : Pos}
def sixT (i : Nat) (mi : M β RV) (d : D) : M β Unit := mbind (ownAt i) fun _ => mbind mi fun y => mbind (ownAt i) fun ds => mbind (opt ((asI y.d).bind fun k => ixN ds.length k)) fun j => putO i (ds.set j d)
theorem g_six (i : Nat) (hi : PEM X g W0 b mi) (hN : X.N[i]? = some x := by rfl) (hv : Vis X.env.scope x := by first | exact Or.inl rfl | exact Or.inr (Or.inl rfl) | exact Or.inr (Or.inr rfl)) (hd : (x == ("__debug__" : Str)) = false := by decide)
    (hcd : (x == ("__classdict__" : Str)) = false := by decide)
    (ha : ∀ v, assign (.Subscript (.Name x p) b pos') X.env v = (do
      let ov ← holding [v] (eval (.Name x p) X.env)
      let iv ← holding [v, ov] (eval b X.env)
      standAt pos'
      holding [v, ov, iv] (setItem ov iv v)
      release [v, ov, iv] []) := by intros; rfl) : PGM X g [] (.Subscript (.Name x p) b pos') (sixT i mi) := PG.imp (pg_sub (pe_var hN hv hd hcd) hi.d set_list ha) fun v σ H Q ⟨H1, s1, d, R1, rr, q⟩ => by
  unfold sixT at q
  rw [on_bind] at q
  obtain ⟨ds0, hs1, q⟩ := on_ownAt q
  obtain ⟨p1, hσ, vs0, hp, _⟩ := R1.own_at hs1
  refine ⟨.ref p1, hσ, H1, s1, R1, ?_⟩
  rw [on_bind] at q
  refine Out.on_imp q (fun y s2 q u H3 H4 e2 R2 ru => ?_) fun _ _ q => q.elim
  rw [on_bind] at q
  obtain ⟨ds, hs2, q⟩ := on_ownAt q
  obtain ⟨p2, hσ2, vs, hp2, rs, _⟩ := R2.own_at hs2
  rw [hσ] at hσ2; cases hσ2
  rw [on_bind, on_opt] at q
  obtain ⟨j, ej, q⟩ := q
  rw [Option.bind_eq_some_iff] at ej
  obtain ⟨k, ek, ej⟩ := ej
  rw [asI_eq ek] at ru
  cases ru
  exact ⟨p1, vs, k, j, rfl, rfl, hp2, by rw [rs.len]; exact ej, q σ H3 _ .refl e2 (R2.setO hs2 hσ (rs.set (rr.mono e2) j))⟩
end
end DL

set_option Elab.async false
set_option linter.all false
set_option maxRecDepth 100000
set_option maxHeartbeats 4000000
namespace DL
open PySem PySem.Spec PyProof.Rows L2 L2H
/-! ### numbers of the module; keywords to a class, a method, a staticmethod -/
section
variable {β : Type} {X : Cx} {g : G β} {W : WX} {x : Str} {p : Pos}
theorem e_gi (i : Int) (h : ∃ t, X.mg x = some (.int i t)) (hg : Gl X x := by rfl) (hd : (x == ("__debug__" : Str)) = false := by decide) : PEM X g W (.Name x p) (cst (.int i)) := by
  obtain ⟨t, h⟩ := h
  exact PE.imp (pe_glob (v := .int i) hg h ⟨t, rfl⟩ hd) fun σ H Q ⟨H0, s, R, q⟩ => q (.int i) H0 H (Ex.refl _) R .int trivial
end
section
variable {X : Cx} {CX : CXT} {k n : Nat} {f C p0 : Addr} {fd : FuncData} {ps ks : List Str} {pi : List Nat} {sp : Sp} {E : L2.St → XK} {x m : Str} {p pos apos : Pos} {o : Expr} {kws : List Keyword} {ta : TE} {tk : TA} {mc : Value}
def tMakeKD (C : Addr) (nk : Nat) (pi : List Nat) (sp : Sp) (E : L2.St → XK) (tk : TA) : TE := fun σ H Q => tk σ H fun zs H2 => zs.length = nk ∧ ∀ x dx, H2 x = none → H2 dx = none → dx ≠ x → sp (perm pi (.ref x :: zs)) (upd (upd H2 dx (.own x)) x (.ins C dx [])) (fun v H3 => v = .non ∧ Q (.ref x) H3) (E σ)
theorem pe_makeKD (M : Mk X.K C f) (F : FnOk X.prog X.w X.K X.mg X.base CX k f fd ps sp) (hr : Room (k + 1) X.A) (hg : Gl X x) (hm : X.mg x = some (.ref C)) (hb : KwB X.K fd ps 1 ks pi) (hx : ∀ σ, PassesAt CX X σ (E σ)) (hkw : PK X kws tk)
    (hall : (backToKw pos (keywordEach kws X.env)).all (·.1.isSome) = true) (hks : (backToKw pos (keywordEach kws X.env)).filterMap (·.1) = ks) (hdb : (x == ("__debug__" : Str)) = false)
    (hpl : ((backTo pos (starEach [] X.env)).any (·.1) || (backToKw pos (keywordEach kws X.env)).any (·.1.isNone)) = false) : PE X (.Call (.Name x p) [] kws pos) (tMakeKD C ks.length pi sp E tk) := by
  refine ⟨fun pins s σ H Q I h => ?_⟩
  refine wpAny_Call_Name_kw (ld_glob I hg hm ?_ hdb)
  refine PySem.W.callWith_KW0 (h₀ := X.base) I.ok.mod.kin M.kp hall ?_ hpl
  refine thn (hkw.run pos pins s σ H _ I h) fun ws s2 ⟨zs, H2, I2, rz, l2, h⟩ => ⟨I2.kIn, ?_⟩
  rw [hks]
  have hq := h (s2.heap.objs.size + 1) s2.heap.objs.size (I2.hok.fresh (Nat.le_succ _)) (I2.hok.fresh (Nat.le_refl _)) (Nat.ne_of_lt (Nat.lt_succ_self _))
  have I3 := Inv.made (C := C) I2
  have r1 : Vals (V.ref (s2.heap.objs.size + 1) :: zs) (Value.ref (s2.heap.objs.size + 1) :: ws) := .cons rfl rz
  have r2 := perm_vals r1 pi
  refine wpAny_call (make_map (f := f) I2.kIn M.makes M.init (beq_iff_eq.mp M.fn) (codeAny_mono (F.run _ X.stack _ _ ⟨[Value.ref (s2.heap.objs.size + 1)], ks.zip ws⟩ (perm pi (Value.ref (s2.heap.objs.size + 1) :: ws)) _ _ (E σ) (hr.make C [] (ks.zip ws))
    (I3.env0.make C [] (ks.zip ws)) (hb _ [Value.ref (s2.heap.objs.size + 1)] ws I3.kIn rfl (rz.length.symm.trans l2)) r2 hq) fun r s' hq' => ?_))
  cases r with
  | error e => exact hx σ pins _ _ e s' I3 hq'
  | ok fl =>
    cases fl with
    | ret u =>
      obtain ⟨v, H', I4, rv, ev, q3⟩ := I3.after hq'
      subst ev
      exact ⟨rv, ⟨V.ref (s2.heap.objs.size + 1), H', I4, rfl, q3⟩⟩
    | next => exact False.elim hq'
    | brk => exact False.elim hq'
    | cont => exact False.elim hq'
theorem pe_smethKD {pl : Sem Bool} (hg : Gl X x) (hm : X.mg x = some (.ref C)) (r : ClX.CRead X.K C mc) (c : SMet X.K C mc m p0 f) (F : FnOk X.prog X.w X.K X.mg X.base CX k f fd ps sp) (hr : Room k X.A) (hb : KwB X.K fd ps 0 ks pi) (hx : ∀ σ, PassesAt CX X σ (E σ)) (hkw : PK X kws tk)
    (hall : (backToKw pos (keywordEach kws X.env)).all (·.1.isSome) = true) (hks : (backToKw pos (keywordEach kws X.env)).filterMap (·.1) = ks) (hdb : (x == ("__debug__" : Str)) = false)
    (hpl : ((backTo pos (starEach [] X.env)).any (·.1) || (backToKw pos (keywordEach kws X.env)).any (·.1.isNone)) = false)
    (ht : eval (.Call (.Attribute (.Name x p) m apos) [] kws pos) X.env = (do
      let ov ← eval (.Name x p) X.env
      standAt apos.atName
      let (f, first) ← holding [ov] (getMethod ov m pl)
      callWith pos f first (backTo pos (starEach [] X.env)) (backToKw pos (keywordEach kws X.env)))) : PE X (.Call (.Attribute (.Name x p) m apos) [] kws pos) (tKw 0 ks.length pi sp E tNil tk) := by
  refine ⟨fun pins s σ H Q I h => ?_⟩
  refine PySem.W.methodCall_KW (pl := pl) (ld_glob I hg hm ?_ hdb) ht
  refine getmethsm_ok I r c fun s2 I2 => ?_
  refine PySem.W.callWith_KW0 (h₀ := X.base) I.ok.mod.kin c.kp hall ?_ hpl
  refine thn (hkw.run pos pins s2 σ H _ I2 h) fun ws s3 ⟨zs, H2, I3, rz, l1, l2, q2⟩ => ⟨I3.kIn, ?_⟩
  rw [hks]
  exact run_kw F hr hb (hx σ) I3 .nil rz l1 l2 q2
end
section
variable {β : Type} {X : Cx} {g : G β} {W : WX} {kws : List Keyword} {mk : M β (List Arg)} {pos p apos : Pos} {c m : Str} {k k' : Nat} {st : Stmt} {ps ks : List Str} {md : DefM Unit}
theorem e_smethK0 {N nk : Nat} {pl : Sem Bool} (pi : List Nat) (F : Dsm X.prog X.w X.K X.mg X.base k c m st ps md) (hr : Room k' X.A) (tk : L2N.Takes X W) (h : KwQ m (c ++ "." ++ m) st ps 0 ks pi) (hkw : PKBM X g W kws mk) (hk : k ≤ k' := by decide) (hg : Gl X c := by rfl)
    (hall : (backToKw pos (keywordEach kws X.env)).all (·.1.isSome) = true := by rfl) (hks : (backToKw pos (keywordEach kws X.env)).filterMap (·.1) = ks := by rfl) (hdb : (c == ("__debug__" : Str)) = false := by decide)
    (hpl : ((backTo pos (starEach [] X.env)).any (·.1) || (backToKw pos (keywordEach kws X.env)).any (·.1.isNone)) = false := by rfl)
    (ht : eval (.Call (.Attribute (.Name c p) m apos) [] kws pos) X.env = (do
      let ov ← eval (.Name c p) X.env
      standAt apos.atName
      let (f, first) ← holding [ov] (getMethod ov m pl)
      callWith pos f first (backTo pos (starEach [] X.env)) (backToKw pos (keywordEach kws X.env))) := by rfl) (hN : ps.length = N := by rfl) (hnk : ks.length = nk := by rfl) :
    PEM X g W (.Call (.Attribute (.Name c p) m apos) [] kws pos) (callP N md (kwA 0 nk pi (mret []) mk)) := by
  subst hN hnk
  obtain ⟨f, fd, p0, FD, gl, cr, me, F, bn⟩ := F
  refine PE.imp (pe_smethKD (pl := pl) (E := fun σ c d H => W c d σ H) hg gl cr me F (hr.mono hk) (kwBQ FD h) (fun σ => L2N.passAt tk σ) hkw hall hks hdb hpl ht) fun σ H Q q => ?_
  obtain ⟨H0, s, R, q⟩ := kw_use (callP_sp' q)
  exact q [] H0 H (Ex.refl _) R .nil
/-- C(k = v, ..): its mirror -/
def makeK (c : Str) (n : Nat) (pi : List Nat) (md : DefM (IB c)) (mk : M β (List Arg)) : M β RV := mbind mk fun as => mIte (as.length == n && noB as) (mbind (rsl as) fun ds => mIte (nbxs ds) (mkP c (md (.box :: perm pi ds) ⟨[]⟩)) mbad) mbad
theorem nbxs_perm {pi : List Nat} {ds : List D} (h : nbxs ds = true) : nbxs (perm pi ds) = true := by
  induction pi with
  | nil => rfl
  | cons i pi ih =>
    rw [perm_cons]
    cases e : ds[i]? with
    | none => exact ih
    | some d =>
      show (nbx d && nbxs (perm pi ds)) = true
      rw [nbxs_at h e, ih]; rfl
theorem reps_perm {K : PySem.W.Frag} {bx : Addr} {H : Hp} {vs : List V} {ds : List D} (r : Reps K bx H vs ds) : ∀ pi : List Nat, Reps K bx H (perm pi vs) (perm pi ds)
  | [] => .nil
  | i :: pi => by
    rw [perm_cons, perm_cons]
    cases e : ds[i]? with
    | none =>
      have : vs[i]? = none := by
        rw [List.getElem?_eq_none_iff] at e ⊢
        rw [r.len]; exact e
      rw [this]; exact reps_perm r pi
    | some d =>
      obtain ⟨v, hv, rv⟩ := r.at e
      rw [hv]; exact .cons rv (reps_perm r pi)
theorem perm_shift {α : Type} {x : α} {zs : List α} : ∀ (pi : List Nat), perm (0 :: pi.map (· + 1)) (x :: zs) = x :: perm pi zs := fun pi => by
  rw [perm_cons]
  show x :: perm (pi.map (· + 1)) (x :: zs) = _
  congr 1
  unfold perm
  rw [List.filterMap_map]
  rfl
theorem e_makeK0 {n : Nat} {md : DefM (IB c)} (pi : List Nat) (F : Dc X.prog X.w X.K X.mg X.base k c st ps md) (hr : Room k' X.A) (tk : L2N.Takes X W) (h : KwQ "__init__" (c ++ ".__init__") st ("self" :: ps) 1 ks (0 :: pi.map (· + 1))) (hkw : PKBM X g W kws mk) (hp : pi.length = n := by rfl) (hk : k + 1 ≤ k' := by decide) (hg : Gl X c := by rfl)
    (hall : (backToKw pos (keywordEach kws X.env)).all (·.1.isSome) = true := by rfl) (hks : (backToKw pos (keywordEach kws X.env)).filterMap (·.1) = ks := by rfl) (hdb : (c == ("__debug__" : Str)) = false := by decide)
    (hpl : ((backTo pos (starEach [] X.env)).any (·.1) || (backToKw pos (keywordEach kws X.env)).any (·.1.isNone)) = false := by rfl) (hn : ps.length = n := by rfl) (hnk : ks.length = n := by rfl) (hpi : ∀ i ∈ pi, i < n := by decide) :
    PEM X g W (.Call (.Name c p) [] kws pos) (makeK c n pi md mk) := by
  obtain ⟨f, fd, M, FD, gl, F, bn⟩ := F
  refine PE.imp (pe_makeKD (E := fun σ c d H => W c d σ H) M F (hr.mono hk) hg gl (kwBQ FD h) (fun σ => L2N.passAt tk σ) hkw hall hks hdb hpl) fun σ H Q q => ?_
  obtain ⟨H0, s, R, q⟩ := q
  unfold makeK at q
  rw [on_bind] at q
  refine ⟨H0, s, R, Out.on_imp q (fun as s1 q vs H1 H2 e1 R1 ra => ?_) fun _ _ q => q⟩
  cases hl : (as.length == n && noB as) with
  | false => rw [hl] at q; exact q.elim
  | true =>
    rw [hl] at q
    obtain ⟨l1, l2⟩ := Bool.and_eq_true_iff.mp hl
    have l1 : as.length = n := of_decide_eq_true l1
    have q : (mbind (rsl as) (fun ds => mIte (nbxs ds) (mkP c (md (.box :: perm pi ds) ⟨[]⟩)) mbad) s1).on _ _ := q
    rw [on_bind, on_rsl] at q
    obtain ⟨ds, eds, q⟩ := q
    cases hb : nbxs ds with
    | false => rw [hb] at q; exact q.elim
    | true =>
      rw [hb] at q
      have rs := res_plain ra l2 eds
      refine ⟨by rw [ra.len, l1, hnk], fun x dx hx hdx ne => ?_⟩
      rw [perm_shift]
      have lp : (perm pi ds).length = ps.length := by
        have ld : ds.length = n := by rw [← rs.len, ra.len, l1]
        have : ∀ qi : List Nat, (∀ i ∈ qi, i < n) → (perm qi ds).length = qi.length := fun qi => by
          induction qi with
          | nil => exact fun _ => rfl
          | cons i qi ih =>
            intro hq
            rw [perm_cons]
            have hlt : i < ds.length := by rw [ld]; exact hq i (by simp)
            rw [List.getElem?_eq_getElem hlt]
            show (perm qi ds).length + 1 = qi.length + 1
            rw [ih fun j hj => hq j (List.mem_cons_of_mem _ hj)]
        rw [this pi hpi, hp, hn]
      exact make_in R1 (reps_perm rs pi) lp (nbxs_perm hb) (Out.on_imp q (fun r s2 q v H3 H4 e2 R2 rr ap => q v H3 H4 (e1.trans e2) R2 rr ap) fun _ _ q => q.back e1) x dx hx hdx ne
end
end DL

set_option Elab.async false
set_option linter.all false
set_option maxRecDepth 100000
set_option maxHeartbeats 4000000
namespace DL
open PySem PySem.Spec PyProof.Rows L2 L2H
/-! ### tuple * int -/
theorem tuple_mul1 (l : Addr) (items : Array Value) (n : Nat) (dd : Option Addr) (sl : Array (Option Value)) (u : Tok) :
    Meets (Builtin.«tuple.__mul__» ⟨[.ref l, .int 1 u], []⟩) (fun _ R s => s.heap.get? l = some { cls := .type "tuple", dict := dd, data := .seq items n, slots := sl } ∧ R (.ok (.ret (Value.ref l))) s) :=
  .of_wp fun prog w A R s h => by
    obtain ⟨hp, g, d, tk, os⟩ := s
    obtain ⟨hl, h⟩ := h
    have f1 := AutoSeq1.idx_int
    have c1 : (items.isEmpty || (1 : Int) == 1) = true := by simp
    wp_walk using wpAny_loadPart' hl
    repeat (first
      | (refine wpAny_ite_false (decide_eq_false (by decide)) ?_; wp_walk using wpAny_loadPart' hl)
      | (refine wpAny_ite_true (decide_eq_true (by rw [c1])) ?_; wp_walk using wpAny_loadPart' hl))
    exact ⟨_, rfl, h⟩
def rRep1 (K : PySem.W.Frag) : R2 := fun x y H Q => ∃ l xs, x = .ref l ∧ y = .int 1 ∧ SqT K H l xs ∧ Q (.ref l) H
def rRep2 (K : PySem.W.Frag) : R2 := fun x y H Q => ∃ l k xs, x = .ref l ∧ y = .int k ∧ SqT K H l xs ∧ xs ≠ [] ∧ 2 ≤ k ∧ k ≤ 1000000 ∧ xs.length * k.toNat ≤ 1000000 ∧ ∀ p, H p = none → Q (.ref p) (upd H p (.tup (List.replicate k.toNat xs).flatten))
section
variable {X : Cx}
theorem op_rep1 : OpR X (binaryOp .Mult) (rRep1 X.K) := by
  intro pins s σ H x y v u Q I rx ry h
  obtain ⟨l, xs, rfl, rfl, hT, q⟩ := h
  cases rx
  obtain ⟨t, rfl⟩ := ry
  obtain ⟨its, r, ⟨⟨cls, dd, data, sl⟩, ho, hc, n, hd⟩, hs⟩ := I.tuple hT
  simp only at hc hd
  subst hc hd
  refine wpAny_binaryOp_repeat_ref (T := "tuple") (U := "int") (by decide) ⟨_, ho, rfl⟩ (fun s' => typeIs_int s' 1 t) noFill_tuple_mul F.fills_int_mul F.slot_int_rmul repeat_tuple F.slot_int_index.lookup
    (call_meets F.slot_int_rmul (typeIs_int s 1 t) F.entry_int_rmul (F.args_int_rmul_2 _ _) (int_rmul_tuple 1 t l its.toArray n dd sl)
      ⟨ho, rfl, ⟨_, ho, rfl⟩, call_meets F.slot_tuple_mul ⟨_, ho, rfl⟩ F.entry_tuple_mul (F.args_tuple_mul_2 _ _) (tuple_mul1 l its.toArray n dd sl t) ⟨ho, ?_⟩⟩)
  exact ⟨.ref l, H, I, rfl, q⟩
theorem op_rep2 : OpR X (binaryOp .Mult) (rRep2 X.K) := by
  intro pins s σ H x y v u Q I rx ry h
  obtain ⟨l, k, xs, rfl, rfl, hT, hne, h1, h2, hz, q⟩ := h
  cases rx
  obtain ⟨t, rfl⟩ := ry
  obtain ⟨its, r, ⟨⟨cls, dd, data, sl⟩, ho, hc, n, hd⟩, hs⟩ := I.tuple hT
  simp only at hc hd
  subst hc hd
  obtain ⟨m, rfl⟩ := Int.eq_ofNat_of_zero_le (show 0 ≤ k by omega)
  rw [Int.toNat_natCast] at hz q
  have hle : its.length = xs.length := r.length.symm
  have hn : its ≠ [] := fun e => hne (by
    rw [e] at hle
    exact List.eq_nil_of_length_eq_zero hle.symm)
  have hi : its.toArray.isEmpty = false := by
    cases its with
    | nil => exact absurd rfl hn
    | cons a b => rfl
  have hsz0 : its.toArray.size = xs.length := by rw [List.size_toArray, hle]
  have hm : ((its.toArray.size : Nat) : Int) * (m : Int) ≤ 1000000 := by
    rw [hsz0, ← Int.natCast_mul]
    omega
  have flen : (List.replicate m its).flatten.length ≤ sizeLine := by
    rw [PyProof.Rows.lm_len_rep_flat, hle, sizeLine_eq, Nat.mul_comm]
    omega
  have c0 : (decide ((m : Int) < -(2 ^ 63)) || decide ((m : Int) ≥ 2 ^ 63)) = false := by
    rw [decide_eq_false (by omega), decide_eq_false (by omega)] <;> rfl
  have c1 : (its.toArray.isEmpty || (m : Int) == 1) = false := by
    rw [hi, Bool.false_or]
    exact beq_eq_false_iff_ne.mpr (by omega)
  have c2 : (decide ((m : Int) ≤ 0) || its.toArray.isEmpty) = false := by
    rw [hi, Bool.or_false]
    exact decide_eq_false (by omega)
  have c4 : Builtin.Tuple.tupleTooMany (((its.toArray.size : Nat) : Int) * (m : Int)) = false := by
    unfold Builtin.Tuple.tupleTooMany
    rw [sizeLine_eq]
    exact decide_eq_false (by omega)
  refine wpAny_binaryOp_repeat_ref (T := "tuple") (U := "int") (by decide) ⟨_, ho, rfl⟩ (fun s' => typeIs_int s' (m : Int) t) noFill_tuple_mul F.fills_int_mul F.slot_int_rmul repeat_tuple F.slot_int_index.lookup
    (call_meets F.slot_int_rmul (typeIs_int s (m : Int) t) F.entry_int_rmul (F.args_int_rmul_2 _ _) (int_rmul_tuple (m : Int) t l its.toArray n dd sl)
      ⟨ho, rfl, ⟨_, ho, rfl⟩, call_meets F.slot_tuple_mul ⟨_, ho, rfl⟩ F.entry_tuple_mul (F.args_tuple_mul_2 _ _) (tuple_mulW l its.toArray n dd sl (m : Int) t c0 c1 c2 (by omega) c4 (by rw [Int.toNat_natCast, size_rep, List.size_toArray]; exact flen)) ⟨ho, ?_⟩⟩)
  rw [Int.toNat_natCast, size_rep]
  refine ⟨.ref s.heap.objs.size, _, I.laid (t' := s.toks) (o := .tup (List.replicate m xs).flatten) (fun b ob q => Heap.get?_push_of_some _ q) (Nat.le_refl _) ?_, rfl, q _ (I.hok.fresh (Nat.le_refl _))⟩
  exact ⟨by rw [PyProof.Rows.lm_len_rep_flat, sizeLine_eq, Nat.mul_comm]; omega, _, r.rep m, IsTup.new _ _⟩
end
def mulTD : D → D → Option RV
  | .tup xs, .int k => if 1 ≤ k ∧ k ≤ 1000000 ∧ xs ≠ [] ∧ xs.length * k.toNat ≤ 1000000 then some (.v (.tup (List.replicate k.toNat xs).flatten)) else none
  | _, _ => none
theorem ok_mulT {K : PySem.W.Frag} : OpOk K (fun x y H Q => rRep1 K x y H Q ∨ rRep2 K x y H Q) mulTD := fun bx H0 H x y dx dy rz Q sub rx ry e k => by
  unfold mulTD at e
  split at e
  · split at e
    · rename_i xs kk h
      obtain ⟨h1, h2, h3, h4⟩ := h
      cases e; cases ry
      have rx' := rx
      cases rx with
      | tup hx lx gx =>
        by_cases q : kk = 1
        · subst q
          refine .inl ⟨_, _, rfl, rfl, sub.t hx, k.val sub ?_⟩
          have : (List.replicate (1 : Int).toNat xs).flatten = xs := by simp [List.replicate]
          rw [this]; exact rx'
        · refine .inr ⟨_, kk, _, rfl, rfl, sub.t hx, fun z => h3 (by
            subst z
            exact List.eq_nil_of_length_eq_zero lx.symm), by omega, h2, by rw [lx]; exact h4, fun p hp => k.tup sub (reps_flat ⟨lx, gx⟩ _) hp⟩
    · cases e
  · cases e
section
variable {β : Type} {X : Cx} {g : G β} {W : WX} {a b : Expr} {ma mb : M β RV} {pos : Pos}
theorem e_mulT (ha : PEM X g W a ma) (hb : PEM X g W b mb) : PEM X g W (.BinOp a .Mult b pos) (eBin mulTD ma mb) := e_bin (op_rep1.or op_rep2) ok_mulT ha hb
end
end DL

set_option Elab.async false
set_option linter.all false
set_option maxRecDepth 100000
set_option maxHeartbeats 4000000
namespace DL
open PySem PySem.Spec PyProof.Rows L2 L2H
/-! ### the head's words of classes, as the walks want them -/
theorem insF_of {K : PySem.W.Frag} {xs : XS} (h : ∀ q ∈ xs, clsB q.1 q.2 K = true) : InsF K xs := ⟨fun q hq => (clsB_ok (h q hq)).1, fun q hq => (clsB_ok (h q hq)).2⟩
theorem isC_of {K : PySem.W.Frag} {mg : Str → Option Value} {c : Str} {cs : List Str} (h : isoB c cs K = true) (gl : mg c = some (.ref (He.ga K c))) (hc : ∀ d ∈ cs, Cls K (He.ga K d)) : IsC K mg c cs := by
  unfold isoB at h
  simp only [Bool.and_eq_true, decide_eq_true_eq] at h
  obtain ⟨h1, h2, h3, h4⟩ := h
  have at_ : ∀ d ∈ cs, PySem.W.findIn K (.ref (He.ga K d)) "__class__" = some (some (.builtin "object.__class__")) ∧ PySem.W.mroIn K (He.ga K d) (.type "object") = some true ∧ PySem.W.kitOne K (.ref (He.ga K d)) (.ref (He.ga K c)) = some (decide (d = c)) := fun d hd => by
    have := List.all_eq_true.mp h3 d hd
    simp only [Bool.and_eq_true, decide_eq_true_eq] at this
    exact this
  exact ⟨gl, fun d hd => ⟨hc d hd, (at_ d hd).1, (at_ d hd).2.1⟩, h1, h2, fun d hd => (at_ d hd).2.2, fun t ht => of_decide_eq_true (List.all_eq_true.mp h4 t ht)⟩
end DL

set_option Elab.async false
set_option linter.all false
set_option maxRecDepth 100000
namespace DL
open PySem PySem.Spec L2
/-! ### str of an int or of a text -/
def strSF : List D → Option RV
  | [.str a] => some (.v (.str a))
  | ds => strF ds
theorem b_strS {X : Cx} : Blt X (.type "str") strSF := by
  obtain ⟨r, hr, ok⟩ := (b_str (X := X)).ex
  refine ⟨_, (SkE.call_str_str (X := X)).or hr, fun bx H0 H xs dxs rz Q sub rs e k => ?_⟩
  unfold strSF at e
  split at e
  · cases e
    obtain ⟨v, rfl, r⟩ := rs.cases1
    cases r
    exact .inl ⟨_, rfl, k.val sub .str⟩
  · exact .inr (ok bx H0 H xs _ rz Q sub rs e k)
end DL

set_option Elab.async false
set_option linter.all false
set_option maxRecDepth 100000
set_option maxHeartbeats 4000000
namespace DL
open PySem PySem.Spec PyProof.Rows L2 L2H
/-! ### a list of two own lists: rows at q, their lists at p0, p1; pieces that hold for every ghost -/
section
variable {X : Cx} {W : WX} {e tg iter : Expr} {st : Stmt} {m : M Unit RV} {c : M Unit Bool} {f : M Unit Fl} {mi : M Unit (List D)} {t : D → M Unit Unit} {tgt : List Nat}
def aE (K : PySem.W.Frag) (mg : Str → Option Value) (W : WX) (m : M Unit RV) : TE := fun σ H Q => ∃ g : G Unit, tE K mg g W m σ H Q
def aT (K : PySem.W.Frag) (mg : Str → Option Value) (W : WX) (m : M Unit Bool) : TT := fun σ H Q => ∃ g : G Unit, tT' K mg g W m σ H Q
def aS (K : PySem.W.Frag) (mg : Str → Option Value) (W : WX) (m : M Unit Fl) : TS := fun D σ H => ∃ g : G Unit, tS K mg g W m D σ H
def aI (K : PySem.W.Frag) (mg : Str → Option Value) (W : WX) (m : M Unit (List D)) : TI := fun σ H R => ∃ g : G Unit, tI K mg g W m σ H R
def aG (K : PySem.W.Frag) (tgt : List Nat) (t : D → M Unit Unit) : TG := fun v σ H Q => ∃ g : G Unit, tG K g tgt t v σ H Q
theorem all_E (h : ∀ g : G Unit, PEM X g W e m) : PE X e (aE X.K X.mg W m) := ⟨fun pins s σ H Q I ⟨g, q⟩ => (h g).run pins s σ H Q I q⟩
theorem all_T (h : ∀ g : G Unit, PTM X g W e c) : PT X e (aT X.K X.mg W c) := ⟨fun pins s σ H Q I ⟨g, q⟩ => (h g).run pins s σ H Q I q⟩
theorem all_S (h : ∀ g : G Unit, PSM X g W st f) : PS X st (aS X.K X.mg W f) := ⟨fun pins s σ H D I ⟨g, q⟩ => (h g).run pins s σ H D I q⟩
theorem all_I (h : ∀ g : G Unit, PIM X g W tg iter mi) : PI X tg iter (aI X.K X.mg W mi) := ⟨fun pins s σ H Q I ⟨g, q⟩ => (h g).run pins s σ H Q I q⟩
theorem all_G (h : ∀ g : G Unit, PGM X g tgt tg t) : PG X tg (aG X.K tgt t) := ⟨fun pins s σ H v u Q I r ⟨g, q⟩ => (h g).run pins s σ H v u Q I r q⟩
end
section
variable {K : PySem.W.Frag} {mg : Str → Option Value} {H0 H H0' H' : Hp} {σ : L2.St} {s : S Unit}
theorem Rel0.rel {g : G Unit} {b : Unit} (r : Rel0 g H0 H b) : Rel K g H0 [] H ⟨[], b⟩ := ⟨r, rfl, fun i k x h => by simp at h, fun i j ds es p h => by simp at h⟩
theorem poke {g g' : G Unit} {p : Addr} {o' : HO} (R : Rel K g H0 σ H s) (hb : g'.bx = g.bx) (hi : g'.itp = g.itp) (ht' : g'.T = []) (hp : ∃ o, g.F p = some o) (hF : ∀ a, a ≠ p → g'.F a = g.F a) (hFp : g'.F p = some o') : Rel K g' H0 σ (upd H p o') s := by
  obtain ⟨o, ho⟩ := hp
  have n0 : H0 p = none := R.r0.dis p o ho
  have hbp : g.bx ≠ p := fun z => by have := R.r0.bxF; rw [z, ho] at this; cases this
  obtain ⟨ob, h1, h2⟩ := R.r0.it
  refine ⟨⟨fun a u e => ?_, fun a u e => ?_, fun a u e => ?_, ?_, ?_, ⟨ob, ?_, ?_⟩, ?_⟩, R.len, fun i k x e1 e2 => ?_, R.dist⟩
  · rw [upd_ne (ne_of_none e n0)]; exact R.r0.sub a u e
  · by_cases ha : a = p
    · subst ha; rw [hFp] at e; cases e; exact upd_same
    · rw [hF a ha] at e; rw [upd_ne ha]; exact R.r0.frm a u e
  · by_cases ha : a = p
    · subst ha; exact n0
    · rw [hF a ha] at e; exact R.r0.dis a u e
  · rw [hb]; exact R.r0.bxn
  · rw [hb, hF _ hbp]; exact R.r0.bxF
  · rw [hb, upd_ne hbp]; exact h1
  · rw [hi]; exact h2
  · rw [ht']; exact TabsR.nil
  · have sr := R.slot i k x e1 e2
    cases k with
    | no => trivial
    | v d => obtain ⟨y, z1, r⟩ := sr; exact ⟨y, z1, by rw [hb]; exact r⟩
    | o ds =>
      obtain ⟨l, vs, z1, z2, rs, m0, mF, mb⟩ := sr
      have hl : l ≠ p := fun z => by subst z; rw [mF] at ho; cases ho
      exact ⟨l, vs, z1, by rw [upd_ne hl]; exact z2, by rw [hb]; exact rs, m0, by rw [hF l hl]; exact mF, by rw [hb]; exact mb⟩
/-- the ghost while rows at q hold the lists at p0, p1 -/
def gR (q p0 p1 : Addr) (F0 : Hp) (vs0 vs1 : List V) : G Unit := ⟨q, fun _ _ o => o = .lst [.ref p0, .ref p1], fun _ h => h, upd (upd F0 p0 (.lst vs0)) p1 (.lst vs1), []⟩
/-- what is neither frozen -/
def Free (H1 H2 : Hp) : Hp := fun a => if (H1 a).isSome = true then none else H2 a
theorem free_at {H1 H2 : Hp} {a : Addr} (h : H1 a = none) : Free H1 H2 a = H2 a := by unfold Free; rw [h]; rfl
theorem free_some {H1 H2 : Hp} {a : Addr} {o : HO} (h : Free H1 H2 a = some o) : H1 a = none ∧ H2 a = some o := by
  unfold Free at h
  split at h
  · cases h
  · rename_i z
    exact ⟨by cases q : H1 a with | none => rfl | some u => rw [q] at z; exact absurd rfl z, h⟩
/-- the caller's relation back -/
theorem back_R {g : G Unit} {q p0 p1 : Addr} {vs0 vs1 : List V} {H1 H2 : Hp} {b : Unit} (r : Rel0 g H1 H2 b) (e1 : Ex H1 H0') (hp0 : H2 p0 = none) (hp1 : H2 p1 = none) (r' : Rel0 (gR q p0 p1 (Free H1 H2) vs0 vs1) H0' H' ()) : Rel0 g H0' H' b := by
  have fr : ∀ a o, H1 a = none → H2 a = some o → (gR q p0 p1 (Free H1 H2) vs0 vs1).F a = some o := fun a o h1 h2 => by
    show upd (upd (Free H1 H2) p0 (.lst vs0)) p1 (.lst vs1) a = _
    rw [upd_ne (ne_of_none h2 hp1), upd_ne (ne_of_none h2 hp0), free_at h1]
    exact h2
  have keep : ∀ a o, H1 a = none → H2 a = some o → H' a = some o ∧ H0' a = none := fun a o h1 h2 => ⟨r'.frm a o (fr a o h1 h2), r'.dis a o (fr a o h1 h2)⟩
  obtain ⟨ob, b1, b2⟩ := r.it
  refine ⟨r'.sub, fun a o h => (keep a o (r.dis a o h) (r.frm a o h)).1, fun a o h => (keep a o (r.dis a o h) (r.frm a o h)).2, (keep _ ob r.bxn b1).2, r.bxF, ⟨ob, (keep _ ob r.bxn b1).1, g.mono e1 b2⟩, ?_⟩
  refine r.tb.keep (fun _ _ _ h => h) (fun p _ ⟨ps, hp⟩ n => (keep _ _ n hp).2) fun a o _ _ h => ?_
  cases z : H1 a with
  | none => exact (keep a o z h).1
  | some u =>
    have := r.sub a u z
    rw [h] at this; cases this
    exact r'.sub a _ (e1 a _ z)
/-- the relation begins -/
theorem start_R {g : G Unit} {p0 p1 q : Addr} {H1 H2 : Hp} {b : Unit} {σ' : L2.St} {sl : List Slot} (r : Rel0 g H1 H2 b) (h0 : H2 p0 = none) (h1 : H2 p1 = none) (hq : H2 q = none) (n01 : p1 ≠ p0) (nq0 : q ≠ p0) (nq1 : q ≠ p1) (hl : sl.length = σ'.length)
    (hs : ∀ (i : Nat) (k : Slot) (x : Option V), sl[i]? = some k → σ'[i]? = some x → (k = .no ∨ ∃ d y, k = .v d ∧ x = some y ∧ Rep K q H1 y d)) :
    Rel K (gR q p0 p1 (Free H1 H2) [] []) H1 σ' (upd (upd (upd H2 p0 (.lst [])) p1 (.lst [])) q (.lst [.ref p0, .ref p1])) ⟨sl, ()⟩ := by
  have ex : Ex H2 (upd (upd (upd H2 p0 (.lst [])) p1 (.lst [])) q (.lst [.ref p0, .ref p1])) := fun a o h => by
    rw [upd_ne (ne_of_none h hq), upd_ne (ne_of_none h h1), upd_ne (ne_of_none h h0)]; exact h
  refine ⟨⟨r.sub.trans ex, fun a o h => ?_, fun a o h => ?_, r.sub.back hq, ?_, ⟨_, upd_same, rfl⟩, TabsR.nil⟩, hl, fun i k x e1 e2 => ?_, fun i j ds es p e1 => ?_⟩
  · have h : upd (upd (Free H1 H2) p0 (.lst [])) p1 (.lst []) a = some o := h
    by_cases a1 : a = p1
    · subst a1; rw [upd_same] at h; rw [upd_ne (Ne.symm nq1), upd_same]; exact h
    · rw [upd_ne a1] at h
      by_cases a0 : a = p0
      · subst a0; rw [upd_same] at h; rw [upd_ne (Ne.symm nq0), upd_ne a1, upd_same]; exact h
      · rw [upd_ne a0] at h
        exact ex a o (free_some h).2
  · have h : upd (upd (Free H1 H2) p0 (.lst [])) p1 (.lst []) a = some o := h
    by_cases a1 : a = p1
    · subst a1; exact r.sub.back h1
    · rw [upd_ne a1] at h
      by_cases a0 : a = p0
      · subst a0; exact r.sub.back h0
      · rw [upd_ne a0] at h
        exact (free_some h).1
  · show upd (upd (Free H1 H2) p0 (.lst [])) p1 (.lst []) q = none
    rw [upd_ne nq1, upd_ne nq0, free_at (r.sub.back hq)]; exact hq
  · rcases hs i k x e1 e2 with rfl | ⟨d, y, rfl, rfl, rr⟩
    · trivial
    · exact ⟨y, rfl, rr⟩
  · have e1 : sl[i]? = some (.o ds) := e1
    have hi := (List.getElem?_eq_some_iff.mp e1).1
    rcases hs i _ σ'[i] e1 (by rw [List.getElem?_eq_getElem (by rw [← hl]; exact hi)]) with z | ⟨d, y, z, _⟩
    · cases z
    · cases z
/-! reading the pieces -/
section
variable {W : WX} {m : M Unit RV} {c : M Unit Bool} {f : M Unit Fl} {g : G Unit} {s' : S Unit} {r : RV}
theorem rd_T {Q : Bool → Hp → Prop} (R : Rel K g H0 σ H s) {k : Bool} (h : c s = .ok k s') (q : ∀ H0' H', Ex H0 H0' → Rel K g H0' σ H' s' → Q k H') : aT K mg W c σ H Q := ⟨g, H0, s, R, by rw [h]; exact q⟩
theorem rd_S {D' : Ends} (R : Rel K g H0 σ H s) (h : f s = .ok .nx s') (q : ∀ σ' H0' H', Ex H0 H0' → Rel K g H0' σ' H' s' → D'.nx σ' H') : aS K mg W f D' σ H := ⟨g, H0, s, R, by rw [h]; exact q⟩
theorem rd_R {D' : Ends} (R : Rel K g H0 σ H s) (h : f s = .ok (.rt r) s') (q : ∀ v σ' H0' H', Ex H0 H0' → Rel K g H0' σ' H' s' → ResR K g H0' H' v r → D'.rt v H') : aS K mg W f D' σ H := ⟨g, H0, s, R, by rw [h]; exact q⟩
theorem rd_E {Q : VK} (R : Rel K g H0 σ H s) (h : m s = .ok r s') (q : ∀ v H0' H', Ex H0 H0' → Rel K g H0' σ H' s' → ResR K g H0' H' v r → Q v H') : aE K mg W m σ H Q := ⟨g, H0, s, R, by rw [h]; exact fun v H1 H2 e R' rr _ => q v H1 H2 e R' rr⟩
theorem slot_v (R : Rel K g H0 σ H s) {i : Nat} {d : D} (h : s.sl[i]? = some (.v d)) : ∃ y, σ[i]? = some (some y) ∧ Rep K g.bx H0 y d := by
  have hi : i < σ.length := by rw [← R.len]; exact (List.getElem?_eq_some_iff.mp h).1
  obtain ⟨y, e, r⟩ := R.slot i _ σ[i] h (by simp [hi])
  exact ⟨y, by simp [hi, e], r⟩
theorem slot_i (R : Rel K g H0 σ H s) {i : Nat} {a : Int} (h : s.sl[i]? = some (.v (.int a))) : σ[i]? = some (some (.int a)) := by
  obtain ⟨y, e, r⟩ := slot_v R h
  cases r; exact e
theorem slot_b (R : Rel K g H0 σ H s) {i : Nat} (h : s.sl[i]? = some (.v .box)) : σ[i]? = some (some (.ref g.bx)) := by
  obtain ⟨y, e, r⟩ := slot_v R h
  cases r; exact e
end
end
end DL

set_option Elab.async false
set_option linter.all false
set_option maxRecDepth 100000
set_option maxHeartbeats 4000000
namespace DL
open PySem PySem.Spec PyProof.Rows L2 L2H
/-! ### methods with keywords alone; generator methods, drained by list -/
section
variable {X : Cx} {CX : CXT} {k n : Nat} {f C : Addr} {fd : FuncData} {ps ks : List Str} {pi : List Nat} {sp : Sp} {spg : SpG} {E : L2.St → XK} {EG : XK} {m : Str} {pos apos : Pos} {e o : Expr} {es : List Expr} {kws : List Keyword} {ta : TE} {t tk : TA}
def tMethKD (C : Addr) (m : Str) (nk : Nat) (pi : List Nat) (sp : Sp) (E : L2.St → XK) (ta : TE) (tk : TA) : TE := fun σ H Q => ta σ H fun x H1 => ∃ a dx fs, x = .ref a ∧ H1 a = some (.ins C dx fs) ∧ fs.lookup m = none ∧
  tk σ H1 fun zs H2 => zs.length = nk ∧ sp (perm pi (x :: zs)) H2 Q (E σ)
theorem pe_methKD0 {pl : Sem Bool} (he : PE X o ta) (c : Cls X.K C) (hm : Meth X.K C m f) (F : FnOk X.prog X.w X.K X.mg X.base CX k f fd ps sp) (hr : Room k X.A) (hb : KwB X.K fd ps 1 ks pi) (hx : ∀ σ, PassesAt CX X σ (E σ)) (hkw : PK X kws tk)
    (hall : (backToKw pos (keywordEach kws X.env)).all (·.1.isSome) = true) (hks : (backToKw pos (keywordEach kws X.env)).filterMap (·.1) = ks)
    (hpl : ((backTo pos (starEach [] X.env)).any (·.1) || (backToKw pos (keywordEach kws X.env)).any (·.1.isNone)) = false)
    (ht : eval (.Call (.Attribute o m apos) [] kws pos) X.env = (do
      let ov ← eval o X.env
      standAt apos.atName
      let (f, first) ← holding [ov] (getMethod ov m pl)
      callWith pos f first (backTo pos (starEach [] X.env)) (backToKw pos (keywordEach kws X.env)))) :
    PE X (.Call (.Attribute o m apos) [] kws pos) (tMethKD C m ks.length pi sp E ta tk) := by
  refine ⟨fun pins s σ H Q I h => ?_⟩
  refine PySem.W.methodCall_KW (pl := pl) (thn (he.run pins s σ H _ I h) fun u s1 ⟨x, H1, I1, rx, a, dx, fs, ex, ea, l, q⟩ => ?_) ht
  subst ex
  obtain rfl : u = Value.ref a := rx
  refine getmeth_ok I1 ea c hm l ?_
  refine PySem.W.callWith_KW0 (first := [.ref a]) (h₀ := X.base) I.ok.mod.kin hm.kp hall ?_ hpl
  refine thn (hkw.run pos pins s1 σ H1 _ I1 q) fun ws s3 ⟨zs, H2, I3, rz, l2, q2⟩ => ⟨I3.kIn, ?_⟩
  rw [hks]
  exact run_kw (us := [.ref a]) (vs := [.ref a]) F hr hb (hx σ) I3 (.cons rfl .nil) rz rfl l2 q2
def tMethG (C : Addr) (m : Str) (sp : SpG) (E : XK) (ta : TE) (t : TA) : TGen := fun σ H cont => ta σ H fun x H1 => ∃ a dx fs, x = .ref a ∧ H1 a = some (.ins C dx fs) ∧ fs.lookup m = none ∧ t σ H1 fun vs H2 => sp (x :: vs) H2 cont E
theorem pgen_meth {pl : Sem Bool} (he : PE X o ta) (c : Cls X.K C) (hm : Meth X.K C m f) (F : GFn X.prog X.w X.K X.mg X.base k f fd ps spg) (hr : Room k X.A) (hb : Binds X.K fd ps []) (ha : PA X (e :: es) t)
    (hst : starEach (e :: es) X.env = (false, eval e X.env) :: starEach es X.env) (hpl : (backTo pos (starEach es X.env)).any (·.1) = false)
    (ht : eval (.Call (.Attribute o m apos) (e :: es) [] pos) X.env = (do
      let ov ← eval o X.env
      standAt apos.atName
      let (f, first) ← holding [ov] (getMethod ov m pl)
      callWith pos f first (backTo pos (starEach (e :: es) X.env)) (backToKw pos (keywordEach [] X.env)))) :
    PGen X k (.Call (.Attribute o m apos) (e :: es) [] pos) (tMethG C m spg EG ta t) EG := by
  refine ⟨fun pins s σ H cont I h => ?_⟩
  refine PySem.W.methodCall_KW (pl := pl) (thn (he.run pins s σ H _ I h) fun u s1 ⟨x, H1, I1, rx, a, dx, fs, ex, ea, l, q⟩ => ?_) ht
  subst ex
  obtain rfl : u = Value.ref a := rx
  refine getmeth_ok I1 ea c hm l ?_
  refine PySem.W.callWith_K (first := [.ref a]) (h₀ := X.base) I.ok.mod.kin hm.kp (thn (ha.run pos pins s1 σ H1 _ I1 q) fun us s2 ⟨vs, H2, I2, r, q2⟩ => ⟨I2.kIn, ?_⟩) hst hpl
  exact run_gfn (us := .ref a :: us) (vs := .ref a :: vs) F hr hb .nil I2 (.cons rfl r) (by rw [List.append_nil]; exact q2)
def tMethGK (C : Addr) (m : Str) (nk : Nat) (pi : List Nat) (sp : SpG) (E : XK) (ta : TE) (tk : TA) : TGen := fun σ H cont => ta σ H fun x H1 => ∃ a dx fs, x = .ref a ∧ H1 a = some (.ins C dx fs) ∧ fs.lookup m = none ∧ tk σ H1 fun zs H2 => zs.length = nk ∧ sp (perm pi (x :: zs)) H2 cont E
theorem pgen_methK0 {pl : Sem Bool} (he : PE X o ta) (c : Cls X.K C) (hm : Meth X.K C m f) (F : GFn X.prog X.w X.K X.mg X.base k f fd ps spg) (hr : Room k X.A) (hb : KwB X.K fd ps 1 ks pi) (hkw : PK X kws tk)
    (hall : (backToKw pos (keywordEach kws X.env)).all (·.1.isSome) = true) (hks : (backToKw pos (keywordEach kws X.env)).filterMap (·.1) = ks)
    (hpl : ((backTo pos (starEach [] X.env)).any (·.1) || (backToKw pos (keywordEach kws X.env)).any (·.1.isNone)) = false)
    (ht : eval (.Call (.Attribute o m apos) [] kws pos) X.env = (do
      let ov ← eval o X.env
      standAt apos.atName
      let (f, first) ← holding [ov] (getMethod ov m pl)
      callWith pos f first (backTo pos (starEach [] X.env)) (backToKw pos (keywordEach kws X.env)))) :
    PGen X k (.Call (.Attribute o m apos) [] kws pos) (tMethGK C m ks.length pi spg EG ta tk) EG := by
  refine ⟨fun pins s σ H cont I h => ?_⟩
  refine PySem.W.methodCall_KW (pl := pl) (thn (he.run pins s σ H _ I h) fun u s1 ⟨x, H1, I1, rx, a, dx, fs, ex, ea, l, q⟩ => ?_) ht
  subst ex
  obtain rfl : u = Value.ref a := rx
  refine getmeth_ok I1 ea c hm l ?_
  refine PySem.W.callWith_KW0 (first := [.ref a]) (h₀ := X.base) I.ok.mod.kin hm.kp hall ?_ hpl
  refine thn (hkw.run pos pins s1 σ H1 _ I1 q) fun ws s3 ⟨zs, H2, I3, rz, l2, q2⟩ => ⟨I3.kIn, ?_⟩
  rw [hks]
  exact run_gkw (us := [.ref a]) (vs := [.ref a]) F hr hb I3 (.cons rfl .nil) rz rfl l2 q2
end
/-! ### their mirrors -/
section
variable {β : Type} {X : Cx} {g : G β} {W : WX} {e o : Expr} {es : List Expr} {kws : List Keyword} {mo : M β RV} {ms mk : M β (List Arg)} {pos p q lpos apos : Pos} {c m : Str} {k k' n : Nat} {σ : L2.St} {H : Hp} {Q : VK} {st : Stmt} {ps ks : List Str} {md : DefM Unit} {mg' : DefG}
def recvM (c m : Str) (mo : M β RV) (cont : D → M β RV) : M β RV := mbind mo fun r => mIte (isIns c m r.d) (cont r.d) mbad
theorem recv_use {K : PySem.W.Frag} {mg : Str → Option Value} {cont : D → M β RV} (h : tE K mg g W (recvM c m mo cont) σ H Q) : tD K mg g W mo σ H fun x H1 => ∃ a dx fs, x = .ref a ∧ H1 a = some (.ins (He.ga K c) dx fs) ∧ fs.lookup m = none ∧
    ∃ d H0' s', Rel K g H0' σ H1 s' ∧ Rep K g.bx H0' x d ∧ (cont d s').on (ResP K g H0' σ Q) (Esc K mg g W H0' σ) := by
  obtain ⟨H0, s, R, h⟩ := h
  unfold recvM at h
  rw [on_bind] at h
  refine ⟨H0, s, R, Out.on_imp h (fun r s1 h v H1 H2 e1 R1 r1 => ?_) fun _ _ q => q⟩
  generalize r.d = d at r1 h
  cases d with
  | ins c' fs =>
    cases hi : isIns c m (.ins c' fs) with
    | false => rw [hi] at h; exact h.elim
    | true =>
      rw [hi] at h
      have hc : (cont (.ins c' fs) s1).on _ _ := h
      have hi : (decide (c' = c) && (fs.lookup m).isNone) = true := hi
      obtain ⟨i1, i2⟩ := Bool.and_eq_true_iff.mp hi
      have i1 := of_decide_eq_true i1
      subst i1
      have i2 : fs.lookup m = none := Option.isNone_iff_eq_none.mp i2
      have rv := r1
      cases r1 with
      | @ins a C dx vs _ _ k0 k1 k2 k3 k4 =>
        subst k1
        exact ⟨a, dx, vs, rfl, R1.r0.sub _ _ k0, look_none (K := K) (bx := g.bx) (H := H1) k3 i2, .ins c' fs, H1, s1, R1, rv, Out.on_imp hc (fun r s2 q v H3 H4 e2 R2 rr ap => q v H3 H4 (e1.trans e2) R2 rr ap) fun _ _ q => q.back e1⟩
  | _ => exact h.elim
theorem callP_at {N : Nat} {K : PySem.W.Frag} {mg : Str → Option Value} {H0 : Hp} {s : S β} (R : Rel K g H0 σ H s) (h : (callP N md ms s).on (ResP K g H0 σ Q) (Esc K mg g W H0 σ)) :
    (ms s).on (fun as s' => ∀ vs H0' H', Ex H0 H0' → Rel K g H0' σ H' s' → ArgsR K g H0' σ vs as → spOf K mg N md vs H' Q (fun c d H => W c d σ H)) (Esc K mg g W H0 σ) := by
  unfold callP at h
  rw [on_bind] at h
  refine Out.on_imp h (fun as s1 h vs H1 H2 e1 R1 ra => ?_) fun _ _ q => q
  cases hl : as.length == N with
  | false => rw [hl] at h; exact h.elim
  | true =>
    rw [hl] at h
    have h : (mbind (rsl as) (fun ds => outP as (md ds ())) s1).on _ _ := h
    rw [on_bind, on_rsl] at h
    obtain ⟨ds, eds, h⟩ := h
    exact spP R1 ra (by rw [ra.len]; exact of_decide_eq_true hl) eds (Out.on_imp h (fun r s2 q v H3 H4 e2 R2 rr ap => q v H3 H4 (e1.trans e2) R2 rr ap) fun _ _ q => q.back e1)
theorem callG_at {N : Nat} {K : PySem.W.Frag} {mg : Str → Option Value} {H0 : Hp} {s : S β} {E : XK} (R : Rel K g H0 σ H s) (h : (callG N mg' ms s).on (ResP K g H0 σ Q) (Esc K mg g W H0 σ)) :
    (ms s).on (fun as s' => ∀ vs H0' H', Ex H0 H0' → Rel K g H0' σ H' s' → ArgsR K g H0' σ vs as → spG K N mg' vs H' (fun out H2 => ∀ p, H2 p = none → Q (.ref p) (upd H2 p (.lst out))) E) (Esc K mg g W H0 σ) := by
  unfold callG at h
  rw [on_bind] at h
  refine Out.on_imp h (fun as s1 h vs H1 H2 e1 R1 ra => ?_) fun _ _ q => q
  cases hl : (as.length == N && noB as) with
  | false => rw [hl] at h; exact h.elim
  | true =>
    rw [hl] at h
    rw [Bool.and_eq_true] at hl
    have h : (mbind (rsl as) (fun ds => mbind (opt (mg' ds)) fun out => mret (RV.o out)) s1).on _ _ := h
    rw [on_bind, on_rsl] at h
    obtain ⟨ds, eds, h⟩ := h
    rw [on_bind, on_opt] at h
    obtain ⟨out, ho, h⟩ := h
    have rs := res_plain ra hl.2 eds
    refine spG_use R1 rs (by rw [← rs.len, ra.len]; exact of_decide_eq_true hl.1) ho fun ys H3 H4 e3 R3 ry p hp => ?_
    exact (fin_of2 (r := .o out) R3 fun z H5 H6 e5 R5 rr ap => h z H5 H6 ((e1.trans e3).trans e5) R5 rr ap).lst R3.r0.sub ry hp
/-- o.m(k = v, ..) -/
def selfK (nk : Nat) (pi : List Nat) (mk : M β (List Arg)) (d : D) : M β (List Arg) := mbind mk fun as => mIte (as.length == nk) (mret (perm (0 :: pi.map (· + 1)) (.v d :: as))) mbad
def selfA (ms : M β (List Arg)) (d : D) : M β (List Arg) := mbind ms fun as => mret (.v d :: as)
def methK (c m : Str) (n nk : Nat) (pi : List Nat) (md : DefM Unit) (mo : M β RV) (mk : M β (List Arg)) : M β RV := recvM c m mo fun d => callP (n + 1) md (selfK nk pi mk d)
/-- list(o.m(..)) -/
def listGM (c m : Str) (n : Nat) (mg' : DefG) (mo : M β RV) (ms : M β (List Arg)) : M β RV := recvM c m mo fun d => callG (n + 1) mg' (selfA ms d)
def listGK (c m : Str) (n nk : Nat) (pi : List Nat) (mg' : DefG) (mo : M β RV) (mk : M β (List Arg)) : M β RV := recvM c m mo fun d => callG (n + 1) mg' (selfK nk pi mk d)
theorem selfK_use {K : PySem.W.Frag} {mg : Str → Option Value} {nk : Nat} {pi : List Nat} {P : List V → Hp → Prop} {d : D} {x : V} {H0 : Hp} {s : S β} (R : Rel K g H0 σ H s) (rx : Rep K g.bx H0 x d) (h : (selfK nk pi mk d s).on (fun as s' => ∀ vs H0' H', Ex H0 H0' → Rel K g H0' σ H' s' → ArgsR K g H0' σ vs as → P vs H') (Esc K mg g W H0 σ)) :
    tAB K mg g W mk σ H fun zs H2 => zs.length = nk ∧ P (perm (0 :: pi.map (· + 1)) (x :: zs)) H2 := by
  unfold selfK at h
  rw [on_bind] at h
  refine ⟨H0, s, R, Out.on_imp h (fun as s1 h vs H1 H2 e1 R1 ra => ?_) fun _ _ q => q⟩
  cases hl : (as.length == nk) with
  | false => rw [hl] at h; exact h.elim
  | true =>
    rw [hl] at h
    have ra2 : ArgsR K g H1 σ (x :: vs) (.v d :: as) := .cons (rx.mono e1) ra
    exact ⟨by rw [ra.len]; exact of_decide_eq_true hl, h _ H1 H2 e1 R1 (ra2.perm _)⟩
theorem selfA_use {K : PySem.W.Frag} {mg : Str → Option Value} {P : List V → Hp → Prop} {d : D} {x : V} {H0 : Hp} {s : S β} (R : Rel K g H0 σ H s) (rx : Rep K g.bx H0 x d) (h : (selfA ms d s).on (fun as s' => ∀ vs H0' H', Ex H0 H0' → Rel K g H0' σ H' s' → ArgsR K g H0' σ vs as → P vs H') (Esc K mg g W H0 σ)) :
    tAB K mg g W ms σ H fun zs H2 => P (x :: zs) H2 := by
  unfold selfA at h
  rw [on_bind] at h
  exact ⟨H0, s, R, Out.on_imp h (fun as s1 h vs H1 H2 e1 R1 ra => h _ H1 H2 e1 R1 (.cons (rx.mono e1) ra)) fun _ _ q => q⟩
theorem e_methK0 {N nk : Nat} {pl : Sem Bool} (pi : List Nat) (F : Dm X.prog X.w X.K X.mg X.base k c m st ps md) (hr : Room k' X.A) (tk : L2N.Takes X W) (h : KwQ m (c ++ "." ++ m) st ("self" :: ps) 1 ks (0 :: pi.map (· + 1))) (ho : PEM X g W o mo) (hkw : PKBM X g W kws mk) (hk : k ≤ k' := by decide)
    (hall : (backToKw pos (keywordEach kws X.env)).all (·.1.isSome) = true := by rfl) (hks : (backToKw pos (keywordEach kws X.env)).filterMap (·.1) = ks := by rfl)
    (hpl : ((backTo pos (starEach [] X.env)).any (·.1) || (backToKw pos (keywordEach kws X.env)).any (·.1.isNone)) = false := by rfl)
    (ht : eval (.Call (.Attribute o m apos) [] kws pos) X.env = (do
      let ov ← eval o X.env
      standAt apos.atName
      let (f, first) ← holding [ov] (getMethod ov m pl)
      callWith pos f first (backTo pos (starEach [] X.env)) (backToKw pos (keywordEach kws X.env))) := by rfl) (hN : ps.length = N := by rfl) (hnk : ks.length = nk := by rfl) :
    PEM X g W (.Call (.Attribute o m apos) [] kws pos) (methK c m N nk pi md mo mk) := by
  subst hN hnk
  obtain ⟨f, fd, FD, cl, me, F, bn⟩ := F
  refine PE.imp (pe_methKD0 (pl := pl) (E := fun σ c d H => W c d σ H) ho.d cl me F (hr.mono hk) (kwBQ FD h) (fun σ => L2N.passAt tk σ) hkw hall hks hpl ht) fun σ H Q q => ?_
  obtain ⟨H0, s, R, q⟩ := recv_use q
  refine ⟨H0, s, R, Out.on_imp q (fun r s1 q v H1 H2 e1 R1 r1 => ?_) fun _ _ q => q⟩
  obtain ⟨a, dx, fs, h1, h2, h3, d, H3, s3, R3, rx, q⟩ := q v H1 H2 e1 R1 r1
  refine ⟨a, dx, fs, h1, h2, h3, ?_⟩
  exact selfK_use R3 rx (callP_at R3 q)
/-- a generator method -/
def Dgm (P : Program) (w : World) (K : PySem.W.Frag) (mg : Str → Option Value) (base : Heap) (k : Nat) (c m : Str) (st : Stmt) (ps : List Str) (mg' : DefG) : Prop :=
  ∃ f fd, FunD K m (c ++ "." ++ m) (defArgs st) (defBody st) (defScope st) [] [] f fd ∧ Cls K (He.ga K c) ∧ Meth K (He.ga K c) m f ∧ GFn P w K mg base k f fd (("self" : Str) :: ps) (spG K (ps.length + 1) mg') ∧ Binds K fd (("self" : Str) :: ps) []
theorem gm_mk {P : Program} {w : World} {K : PySem.W.Frag} {mg : Str → Option Value} {base : Heap} {x qual : Str} {ps : List Str} (N : List Str) {f : Addr} {fd : FuncData} {mb : GM Unit} (F : FunD K x qual (defArgs st) (defBody st) (defScope st) [] [] f fd) (S : GScope N ps (defScope st))
    (hb : ∀ (f : Addr) (cdv : Value) (A : Around) (outer : List Env) (s : Shared) (H : Hp) (E : XK) (g : G Unit) (pn : List (Addr × Obj)), Room k (A.deeper (PyProof.Rows.envOfC qual (defScope st) s.heap.objs.size f cdv)) → GSSM (gcxOf P w K mg base N qual (defScope st) f cdv A outer s H E pn) g (fun c d _ H => E c d H) (defBody st) mb) :
    GFn P w K mg base (k + 1) f fd ps (spG K ps.length (runGen N.length mb)) := by
  obtain ⟨oc, od, dV, kV, doc, pm, an, cdv, ct, osl, rfl, lk, hcd, hD, hK⟩ := F.ex
  exact gfn_of lk hcd S (fun vs H Q E ⟨g, H0, ds, out, hn, _, rs, _⟩ => by rw [rs.len, hn]) fun A outer s H vs Q E pn hr ⟨g, H0, ds, out, hn, r0, rs, ho, kk⟩ => ⟨_, hb f cdv A outer s H E g pn hr, gbody_ok r0 rs ho kk⟩
theorem e_listGM {N : Nat} {pl : Sem Bool} (F : Dgm X.prog X.w X.K X.mg X.base k c m st ps mg') (hr : Room k' X.A) (hl : X.mg "list" = none) (ho : PEM X g W o mo) (ha : PABM X g W (e :: es) ms) (hk : k + 3 ≤ k' := by decide) (hgl : Gl X "list" := by rfl)
    (hst : starEach (e :: es) X.env = (false, eval e X.env) :: starEach es X.env := by rfl) (hpl : (backTo pos (starEach es X.env)).any (·.1) = false := by rfl)
    (ht : eval (.Call (.Attribute o m apos) (e :: es) [] pos) X.env = (do
      let ov ← eval o X.env
      standAt apos.atName
      let (f, first) ← holding [ov] (getMethod ov m pl)
      callWith pos f first (backTo pos (starEach (e :: es) X.env)) (backToKw pos (keywordEach [] X.env))) := by rfl) (hN : ps.length = N := by rfl)
    (he' : starEach [.Call (.Attribute o m apos) (e :: es) [] pos] X.env = (false, eval (.Call (.Attribute o m apos) (e :: es) [] pos) X.env) :: starEach [] X.env := by rfl) :
    PEM X g W (.Call (.Name "list" q) [.Call (.Attribute o m apos) (e :: es) [] pos] [] lpos) (listGM c m N mg' mo ms) := by
  subst hN
  obtain ⟨f, fd, FD, cl, me, F, bn⟩ := F
  refine PE.imp (pe_listG (pgen_meth (pl := pl) (EG := EF) ho.d cl me F (hr.mono (by omega)) bn ha hst hpl ht) passF noStopF (hr.mono hk) hgl hl (by decide +kernel) (he := he')) fun σ H Q q => ?_
  obtain ⟨H0, s, R, q⟩ := recv_use q
  refine ⟨H0, s, R, Out.on_imp q (fun r s1 q v H1 H2 e1 R1 r1 => ?_) fun _ _ q => q⟩
  obtain ⟨a, dx, fs, h1, h2, h3, d, H3, s3, R3, rx, q⟩ := q v H1 H2 e1 R1 r1
  exact ⟨a, dx, fs, h1, h2, h3, selfA_use R3 rx (callG_at R3 q)⟩
theorem e_listGK0 {N nk : Nat} {pl : Sem Bool} (pi : List Nat) (F : Dgm X.prog X.w X.K X.mg X.base k c m st ps mg') (hr : Room k' X.A) (hl : X.mg "list" = none) (h : KwQ m (c ++ "." ++ m) st ("self" :: ps) 1 ks (0 :: pi.map (· + 1))) (ho : PEM X g W o mo) (hkw : PKBM X g W kws mk) (hk : k + 3 ≤ k' := by decide) (hgl : Gl X "list" := by rfl)
    (hall : (backToKw pos (keywordEach kws X.env)).all (·.1.isSome) = true := by rfl) (hks : (backToKw pos (keywordEach kws X.env)).filterMap (·.1) = ks := by rfl)
    (hpl : ((backTo pos (starEach [] X.env)).any (·.1) || (backToKw pos (keywordEach kws X.env)).any (·.1.isNone)) = false := by rfl)
    (ht : eval (.Call (.Attribute o m apos) [] kws pos) X.env = (do
      let ov ← eval o X.env
      standAt apos.atName
      let (f, first) ← holding [ov] (getMethod ov m pl)
      callWith pos f first (backTo pos (starEach [] X.env)) (backToKw pos (keywordEach kws X.env))) := by rfl) (hN : ps.length = N := by rfl) (hnk : ks.length = nk := by rfl)
    (he' : starEach [.Call (.Attribute o m apos) [] kws pos] X.env = (false, eval (.Call (.Attribute o m apos) [] kws pos) X.env) :: starEach [] X.env := by rfl) :
    PEM X g W (.Call (.Name "list" q) [.Call (.Attribute o m apos) [] kws pos] [] lpos) (listGK c m N nk pi mg' mo mk) := by
  subst hN hnk
  obtain ⟨f, fd, FD, cl, me, F, bn⟩ := F
  refine PE.imp (pe_listG (pgen_methK0 (pl := pl) (EG := EF) ho.d cl me F (hr.mono (by omega)) (kwBQ FD h) hkw hall hks hpl ht) passF noStopF (hr.mono hk) hgl hl (by decide +kernel) (he := he')) fun σ H Q q => ?_
  obtain ⟨H0, s, R, q⟩ := recv_use q
  refine ⟨H0, s, R, Out.on_imp q (fun r s1 q v H1 H2 e1 R1 r1 => ?_) fun _ _ q => q⟩
  obtain ⟨a, dx, fs, h1, h2, h3, d, H3, s3, R3, rx, q⟩ := q v H1 H2 e1 R1 r1
  exact ⟨a, dx, fs, h1, h2, h3, selfK_use R3 rx (callG_at R3 q)⟩
end
end DL

set_option Elab.async false
set_option linter.all false
set_option maxRecDepth 100000
set_option maxHeartbeats 4000000
namespace DL
open PySem PySem.Spec PyProof.Rows L2 L2H
/-! ### instances: ==, != with anything, repr, bool -/
structure OpF (K : PySem.W.Frag) (c : Str) : Prop where
  ne : PySem.W.findIn K (.ref (He.ga K c)) "__ne__" = some (some (.builtin "object.__ne__"))
  obj : PySem.W.mroIn K (He.ga K c) (.type "object") = some true
  bool : PySem.W.findIn K (.ref (He.ga K c)) "__bool__" = some none
  len : PySem.W.findIn K (.ref (He.ga K c)) "__len__" = some none
theorem opF_of {K : PySem.W.Frag} {c : Str} (h : opB c K = true) : OpF K c := by
  unfold opB at h
  simp only [Bool.and_eq_true, decide_eq_true_eq] at h
  exact ⟨h.1.1, h.1.2, h.2.1, h.2.2⟩
section
variable {M : Model} {prog : Program} {w : World} {A : Around} {E : Value → Shared → Prop} {s : Shared} {K : PySem.W.Frag} {x C f : Addr} {ox : Obj} {od : Option Obj} {b : Value}
theorem ifBound_objNe {args : List Value} {Q : Option Value → Shared → Prop} (X : K.In s.heap) (I : PySem.W.InstAt s.heap x ox C od) (hs : PySem.W.findIn K (.ref C) "__ne__" = some (some (.builtin "object.__ne__")))
    (h : wpAny M A (call (.builtin "object.__ne__") (.ref x :: args)) (fun v => Q (some v)) E s) : wpAny M A (callSpecialIfBound? (.ref x) "__ne__" args) Q E s := by
  simp only [callSpecialIfBound?, bindSpecialIfBound?]
  refine wpAny_holding (wpAny_bind (wpAny_bind (wpAny_bind (I.type.here ((PySem.W.looks_findIn X hs).here ?_)))))
  refine wpAny_bind (wpAny_askSetting (wpAny_ite ?_))
  have fin : wpAny M A (call (.builtin "object.__ne__") ([.ref x] ++ args) >>= fun v => pure (some v)) Q E s := wpAny_bind (wpAny_mono h (fun v s' h' => wpAny_pure h') fun _ _ h' => h')
  split
  · exact wpAny_bind (wpAny_of_eq (F.cmp_object.ne.bind _) (wpAny_pure (by exact fin)))
  · exact wpAny_tryCatch (wpAny_bind (wpAny_of_eq (F.cmp_object.ne.bind _) (wpAny_pure (by exact fin))))
def NotBack (Q : Value → Shared → Prop) (v : Value) (s' : Shared) : Prop := match v with
  | .bool k => Q (.bool (!k)) s'
  | _ => False
theorem entry_ne {Q : PySem.Fin → Shared → Prop} (hu : A.units < cLine) (X : K.In s.heap) (I : PySem.W.InstAt s.heap x ox C od) (hs : PySem.W.findIn K (.ref C) "__eq__" = some (some (.ref f))) (hf : PySem.W.isFn K (.ref f) = true)
    (h : wpAny (model prog w) A (call (.ref f) [.ref x, b]) (NotBack fun v s' => Q (.done (.ret v)) s') E s) : wpAny (model prog w) A (Builtin.«object.__ne__» ⟨[.ref x, b], []⟩) Q E s := by
  unfold Builtin.«object.__ne__»
  have sp : ∀ {R : Option Value → Shared → Prop}, (∀ k s', Q (.done (.ret (.bool (!k)))) s' → R (some (.bool k)) s') → wpAny (model prog w) A (callSpecialIfBound? (.ref x) "__eq__" [b]) R E s := fun hR => PySem.W.ifBound_K X I hs hf (wpAny_mono h (fun v s' hv => by
    cases v <;> first | exact False.elim hv | exact hR _ _ hv) fun _ _ e => e)
  repeat (first | with_reducible refine wpAny_cRoomFor hu ?_ | with_reducible refine sp ?_ | wp_step)
  intro k s' hq
  repeat (first | with_reducible refine wpAny_truthy_bool ?_ | wp_step)
  exact hq
theorem call_objNe {Q : Value → Shared → Prop} (hu : A.in1.units < cLine) (X : K.In s.heap) (I : PySem.W.InstAt s.heap x ox C od) (hm : PySem.W.mroIn K C (.type "object") = some true) (hs : PySem.W.findIn K (.ref C) "__eq__" = some (some (.ref f))) (hf : PySem.W.isFn K (.ref f) = true)
    (h : wpAny (model prog w) A.in1 (call (.ref f) [.ref x, b]) (NotBack Q) E s) : wpAny (model prog w) A (call (.builtin "object.__ne__") [.ref x, b]) Q E s :=
  wpAny_call (codeAny_call_builtin F.cmp_object.ne.plain F.cmpEntry_ne (PySem.W.check_slot F.cmpKind_ne F.cmpSplit_ne (I.type.andThen (PySem.W.looks_mroIn X hm)) (F.cmpArgs_ne _ _) (entry_ne hu X I hs hf h)))
theorem rich_ne {L : Addr} {h₀ : Heap} {m : Str → Option Value} {tb : Value} {Q : Value → Shared → Prop} (hu : A.units < cLine) (hu1 : A.in1.units < cLine) (F : PyProof.Rows.Fr h₀ L s.heap m) (X₀ : K.In h₀) (I : PySem.W.InstAt s.heap x ox C od) (hb : PySem.W.Looks (model prog w) s.heap (typeOf b) tb) (hn : PySem.W.notFirst K C tb = true)
    (hne : PySem.W.findIn K (.ref C) "__ne__" = some (some (.builtin "object.__ne__"))) (hm : PySem.W.mroIn K C (.type "object") = some true) (hs : PySem.W.findIn K (.ref C) "__eq__" = some (some (.ref f))) (hf : PySem.W.isFn K (.ref f) = true)
    (h : wpAny (model prog w) A.in1 (call (.ref f) [.ref x, b]) (NotBack Q) E s) : wpAny (model prog w) A (richCompare .NotEq (.ref x) b) Q E s := by
  have X := X₀.keeps F.keep
  have one : wpAny (model prog w) A (tryCompare (.ref x) "__ne__" b) (fun r s' => ∃ v, r = some v ∧ Q v s') E s := by
    unfold tryCompare
    refine wpAny_bind (ifBound_objNe X I hne (call_objNe hu1 X I hm hs hf (wpAny_mono h (fun v s' hv => ?_) fun _ _ e => e)))
    cases v <;> first | exact hv.elim | exact wpAny_pure ⟨_, rfl, hv⟩
  unfold richCompare
  simp only [oneThing_ref]
  refine wpAny_holding (wpAny_bind (wpAny_cRoomFor hu ?_))
  refine wpAny_bind (I.type.here (wpAny_bind (hb.here ?_)))
  split
  · rename_i q
    have e : PySem.W.subIn K tb (.ref C) = some false := by
      rcases Bool.or_eq_true_iff.mp hn with e | e
      · rw [beq_iff_eq.mp e] at q; simp at q
      · exact beq_iff_eq.mp e
    refine wpAny_bind ((PySem.W.looks_subIn X e).here ?_)
    simp only [Bool.false_eq_true, if_false]
    refine wpAny_bind (m := tryCompare (.ref x) _ b) (wpAny_mono one (fun r s' z => ?_) fun _ _ e => e)
    obtain ⟨v, rfl, hq⟩ := z
    exact wpAny_pure hq
  · refine wpAny_bind (wpAny_pure ?_)
    simp only [Bool.false_eq_true, if_false]
    refine wpAny_bind (m := tryCompare (.ref x) _ b) (wpAny_mono one (fun r s' z => ?_) fun _ _ e => e)
    obtain ⟨v, rfl, hq⟩ := z
    exact wpAny_pure hq
end
end DL

set_option Elab.async false
set_option linter.all false
set_option maxRecDepth 100000
set_option maxHeartbeats 4000000
namespace DL
open PySem PySem.Spec PyProof.Rows L2 L2H
/-! ### == and != of an instance with an instance, a text, a tuple -/
def YK (K : PySem.W.Frag) (C : Addr) (H : Hp) (y : V) (tb : Value) : Prop := (∃ z, y = .str z ∧ tb = .type "str") ∨ (∃ a vs, y = .ref a ∧ SqT K H a vs ∧ tb = .type "tuple") ∨ (∃ a dx gs, y = .ref a ∧ H a = some (.ins C dx gs) ∧ tb = .ref C)
theorem sub_T {K : PySem.W.Frag} {C : Addr} {T : String} (h : T = "str" ∨ T = "tuple") : PySem.W.subIn K (.type T) (.ref C) = some false := by
  have e : fastBuiltinMro T = some [.type T, .type "object"] := by rcases h with rfl | rfl <;> decide +kernel
  show (fastBuiltinMro T).map (·.contains (.ref C)) = some false
  rw [e]
  first
    | rfl
    | simp
section
variable {X : Cx} {k : Nat} {C f : Addr} {fd : FuncData} {ps : List Str} {md : DefM Unit}
theorem yk_looks {pins : List (Addr × Obj)} {σ : L2.St} {H : Hp} {s : Shared} {y : V} {u tb : Value} (I : Inv X pins σ H s) (ry : RelV y u) (h : YK X.K C H y tb) : PySem.W.Looks (model X.prog X.w) s.heap (typeOf u) tb ∧ PySem.W.notFirst X.K C tb = true := by
  rcases h with ⟨z, rfl, rfl⟩ | ⟨a, vs, rfl, hq, rfl⟩ | ⟨a, dx, gs, rfl, ha, rfl⟩
  · obtain ⟨t, e⟩ := (show ∃ t, u = Value.str z t from ry)
    subst e
    exact ⟨.of_pure rfl, by unfold PySem.W.notFirst; rw [sub_T (.inl rfl)]; simp⟩
  · obtain rfl : u = Value.ref a := ry
    obtain ⟨its, _, ⟨o, h1, h2, _⟩, _⟩ := I.tuple hq
    exact ⟨fun A Q E s' kp q => wpAny_typeOf (show s'.TypeIs (.ref a) "tuple" from ⟨o, kp _ _ h1, h2⟩) q, by unfold PySem.W.notFirst; rw [sub_T (.inr rfl)]; simp⟩
  · obtain rfl : u = Value.ref a := ry
    obtain ⟨mA, J, _⟩ := ins_get I.hok ha
    obtain ⟨od, J, _⟩ := J.look
    exact ⟨J.type, by simp [PySem.W.notFirst]⟩
def rCmpO (K : PySem.W.Frag) (mg : Str → Option Value) (C : Addr) (neg : Bool) (md : DefM Unit) : R2 := fun x y H Q => ∃ a dx fs tb, x = .ref a ∧ H a = some (.ins C dx fs) ∧ YK K C H y tb ∧
  spOf K mg 2 md [.ref a, y] H (fun v H' => ∃ k, v = .bl k ∧ Q (.bl (neg != k)) H') fun _ _ _ => False
theorem op_eqA (F : FnOk X.prog X.w X.K X.mg X.base (L2N.CX X.prog X.w) k f fd ps (spOf X.K X.mg 2 md)) (hs : PySem.W.findIn X.K (.ref C) "__eq__" = some (some (.ref f))) (hf : PySem.W.isFn X.K (.ref f) = true) (hb : Binds X.K fd ps []) (hr : Room k X.A) :
    OpR X (compareOp .Eq) (rCmpO X.K X.mg C false md) := by
  intro pins s σ H x y v u Q I rx ry ⟨a, dx, fs, tb, ex, ha, hy, hsp⟩
  subst ex
  cases rx
  obtain ⟨lk, nf⟩ := yk_looks I ry hy
  show wpAny (model X.prog X.w) X.A (richCompare .Eq (.ref a) u) (EP X pins σ Q) X.xe s
  obtain ⟨mA, J, _⟩ := ins_get I.hok ha
  obtain ⟨od, J, _⟩ := J.look
  obtain ⟨m, hF⟩ := I.fr
  refine PySem.W.cmp_K (op := .Eq) hr.units0 hF I.ok.mod.kin J lk nf hs hf ?_
  have hl := F.len _ _ _ _ hsp
  have r2 : Vals [V.ref a, y] [Value.ref a, u] := .cons rfl (.cons ry .nil)
  refine wpAny_call (codeAny_mono (F.run X.A X.stack s H ⟨[.ref a, u], []⟩ [.ref a, u] [.ref a, y] _ (fun _ _ _ => False) hr I.env0 (by
    have := hb s [.ref a, u] I.kIn (by simpa using hl)
    simpa using this) r2 hsp) fun r s' hq => ?_)
  cases r with
  | error e => exact passN pins σ H s e s' I hq
  | ok fl =>
    cases fl with
    | ret w =>
      obtain ⟨z, H', I', rz, kk, ez, ex⟩ := I.after hq
      subst ez
      cases rz
      exact ⟨.bl kk, H', I', rfl, by simpa using ex⟩
    | next => exact False.elim hq
    | brk => exact False.elim hq
    | cont => exact False.elim hq
theorem op_neA (F : FnOk X.prog X.w X.K X.mg X.base (L2N.CX X.prog X.w) k f fd ps (spOf X.K X.mg 2 md)) (hs : PySem.W.findIn X.K (.ref C) "__eq__" = some (some (.ref f))) (hf : PySem.W.isFn X.K (.ref f) = true) (hb : Binds X.K fd ps []) (hr : Room (k + 1) X.A)
    (hne : PySem.W.findIn X.K (.ref C) "__ne__" = some (some (.builtin "object.__ne__"))) (hm : PySem.W.mroIn X.K C (.type "object") = some true) : OpR X (compareOp .NotEq) (rCmpO X.K X.mg C true md) := by
  intro pins s σ H x y v u Q I rx ry ⟨a, dx, fs, tb, ex, ha, hy, hsp⟩
  subst ex
  cases rx
  obtain ⟨lk, nf⟩ := yk_looks I ry hy
  show wpAny (model X.prog X.w) X.A (richCompare .NotEq (.ref a) u) (EP X pins σ Q) X.xe s
  obtain ⟨mA, J, _⟩ := ins_get I.hok ha
  obtain ⟨od, J, _⟩ := J.look
  obtain ⟨m, hF⟩ := I.fr
  refine rich_ne hr.units0 hr.in1.units0 hF I.ok.mod.kin J lk nf hne hm hs hf ?_
  have hl := F.len _ _ _ _ hsp
  have r2 : Vals [V.ref a, y] [Value.ref a, u] := .cons rfl (.cons ry .nil)
  refine wpAny_call (codeAny_mono (F.run X.A.in1 X.stack s H ⟨[.ref a, u], []⟩ [.ref a, u] [.ref a, y] _ (fun _ _ _ => False) hr.in1 I.env0.in1 (by
    have := hb s [.ref a, u] I.kIn (by simpa using hl)
    simpa using this) r2 hsp) fun r s' hq => ?_)
  cases r with
  | error e => exact passN pins σ H s e s' I hq
  | ok fl =>
    cases fl with
    | ret w =>
      obtain ⟨z, H', I', rz, kk, ez, ex⟩ := I.after hq
      subst ez
      cases rz
      exact ⟨.bl (!kk), H', I', rfl, by simpa using ex⟩
    | next => exact False.elim hq
    | brk => exact False.elim hq
    | cont => exact False.elim hq
/-- repr(x) by the class's own __repr__ -/
def rRepr (K : PySem.W.Frag) (mg : Str → Option Value) (C : Addr) (md : DefM Unit) : List V → Hp → VK → Prop := fun xs H Q => ∃ a dx fs, xs = [.ref a] ∧ H a = some (.ins C dx fs) ∧ spOf K mg 1 md [.ref a] H (fun v H' => ∃ z, v = .str z ∧ Q (.str z) H') fun _ _ _ => False
theorem call_reprO (F : FnOk X.prog X.w X.K X.mg X.base (L2N.CX X.prog X.w) k f fd ps (spOf X.K X.mg 1 md)) (hs : PySem.W.findIn X.K (.ref C) "__repr__" = some (some (.ref f))) (hf : PySem.W.isFn X.K (.ref f) = true) (hb : Binds X.K fd ps []) (hr : Room (k + 1) X.A) :
    CallR X (.builtin "repr") (rRepr X.K X.mg C md) := by
  intro pins s σ H xs us Q I r ⟨a, dx, fs, ex, ha, hsp⟩
  subst ex
  obtain rfl := Vals.ref1 r
  obtain ⟨mA, J, _⟩ := ins_get I.hok ha
  obtain ⟨od, J, _⟩ := J.look
  obtain ⟨m, hF⟩ := I.fr
  refine PySem.W.repr_K hr.in1.units0 hF I.ok.mod.kin J hs hf ?_
  have hl := F.len _ _ _ _ hsp
  refine wpAny_call (codeAny_mono (F.run X.A.in1 X.stack s H ⟨[.ref a], []⟩ [.ref a] [.ref a] _ (fun _ _ _ => False) hr.in1 I.env0.in1 (by
    have := hb s [.ref a] I.kIn (by simpa using hl)
    simpa using this) r hsp) fun r s' hq => ?_)
  cases r with
  | error e => exact passN pins σ H s e s' I hq
  | ok fl =>
    cases fl with
    | ret w =>
      obtain ⟨z, H', I', rz, kk, ez, ex⟩ := I.after hq
      subst ez
      obtain ⟨t, e⟩ := (show ∃ t, w = Value.str kk t from rz)
      subst e
      exact ⟨.str kk, H', I', ⟨t, rfl⟩, ex⟩
    | next => exact False.elim hq
    | brk => exact False.elim hq
    | cont => exact False.elim hq
theorem meets_bool_at (x : Addr) : Meets (Builtin.«bool.__new__» ⟨[.type "bool", .ref x], []⟩) (fun _ R s => (∀ (A : Around) (prog : Program) (w : World) (Q : Bool → Shared → Prop) (E : Value → Shared → Prop), Q true s → wpAny (model prog w) A (truthy (.ref x)) Q E s) ∧ R (.ok (.ret (.bool true))) s) :=
  Meets.of_wp fun prog w A R s hs => by
    obtain ⟨ht, hs⟩ := hs
    have f1 := F.conv_sub_bool
    repeat (any_goals (first | assumption | (with_reducible refine ht _ _ _ _ _ ?_) | wp_step))
    all_goals first | exact ⟨_, rfl, hs⟩ | exact hs | skip
theorem call_boolO : CallR X (.type "bool") (fun xs H Q => ∃ a C dx fs, xs = [.ref a] ∧ H a = some (.ins C dx fs) ∧ PySem.W.findIn X.K (.ref C) "__bool__" = some none ∧ PySem.W.findIn X.K (.ref C) "__len__" = some none ∧ Q (.bl true) H) := by
  intro pins s σ H xs us Q I r ⟨a, C, dx, fs, ex, ha, h1, h2, q⟩
  subst ex
  obtain rfl := Vals.ref1 r
  obtain ⟨mA, J, _⟩ := ins_get I.hok ha
  obtain ⟨od, J, _⟩ := J.look
  obtain ⟨m, hF⟩ := I.fr
  exact call_bool_1 (meets_bool_at a) ⟨fun A prog w Q E q => PySem.W.truthy_K0 hF I.ok.mod.kin J h1 h2 q, rfl, ⟨.bl true, H, I, rfl, q⟩⟩
end
/-! ### mirrors -/
section
variable {β : Type} {X : Cx} {g : G β} {W : WX} {e a b : Expr} {m ma mb : M β RV} {pos p q : Pos} {c : Str} {k k' : Nat} {st : Stmt} {md : DefM Unit}
def yOk (c : Str) : D → Bool
  | .str _ => true
  | .tup _ => true
  | .ins d _ => decide (d = c)
  | _ => false
def cmO (neg : Bool) (o : Out Unit RV) (s : S β) : Out (S β) RV := match o with
  | .ok (.v (.bl k)) _ => .ok (.v (.bl (neg != k))) s
  | _ => .bad
def cmpM (c : Str) (neg : Bool) (md : DefM Unit) (ma mb : M β RV) : M β RV := mbind ma fun x => mbind mb fun y => mIte (isO c x.d && yOk c y.d) (fun s => cmO neg (md [x.d, y.d] ()) s) mbad
theorem cmp_use {K : PySem.W.Frag} {mg : Str → Option Value} {σ : L2.St} {H : Hp} {Q : VK} {neg : Bool} (h : tE K mg g W (cmpM c neg md ma mb) σ H Q) : tOp (rCmpO K mg (He.ga K c) neg md) (tD K mg g W ma) (tD K mg g W mb) σ H Q := by
  obtain ⟨H0, s, R, q⟩ := h
  unfold cmpM at q
  rw [on_bind] at q
  refine ⟨H0, s, R, Out.on_imp q (fun x s1 q v H1 H2 e1 R1 r1 => ?_) fun _ _ q => q⟩
  rw [on_bind] at q
  refine ⟨H1, s1, R1, Out.on_imp q (fun y s2 q u H3 H4 e2 R2 r2 => ?_) fun _ _ q => q.back e1⟩
  generalize x.d = d1 at r1 q
  generalize y.d = d2 at r2 q
  cases hi : (isO c d1 && yOk c d2) with
  | false => rw [hi] at q; exact q.elim
  | true =>
    rw [hi] at q
    have q3 : (cmO neg (md [d1, d2] ()) s2).on _ _ := q
    obtain ⟨i1, i2⟩ := Bool.and_eq_true_iff.mp hi
    have hk : ∃ tb, YK K (He.ga K c) H4 u tb := by
      cases d2 with
      | str z => cases r2; exact ⟨_, .inl ⟨_, rfl, rfl⟩⟩
      | tup ds => cases r2 with | tup hq _ _ => exact ⟨_, .inr (.inl ⟨_, _, rfl, R2.r0.sub.t hq, rfl⟩)⟩
      | ins c2 f2 =>
        have i2 : c2 = c := of_decide_eq_true i2
        subst i2
        cases r2 with
        | @ins a2 C2 dx2 vs2 _ _ l0 l1 l2 l3 l4 => subst l1; exact ⟨_, .inr (.inr ⟨_, _, _, rfl, R2.r0.sub _ _ l0, rfl⟩)⟩
      | _ => cases i2
    obtain ⟨tb, hk⟩ := hk
    cases d1 with
    | ins c1 f1 =>
      have i1 : c1 = c := of_decide_eq_true i1
      subst i1
      have rx := r1.mono e2
      cases r1 with
      | @ins a1 C1 dx1 vs1 _ _ k0 k1 k2 k3 k4 =>
        subst k1
        refine ⟨a1, dx1, vs1, tb, rfl, R2.r0.sub _ _ (e2 _ _ k0), hk, ?_⟩
        cases hm : md [.ins c1 f1, d2] () with
        | bad => rw [hm] at q3; exact q3.elim
        | exc x b => rw [hm] at q3; exact q3.elim
        | ok r b =>
          rw [hm] at q3
          cases r with
          | o _ => exact q3.elim
          | v dd =>
            cases dd with
            | bl kk =>
              refine spP (g := g) (W := fun _ _ _ _ => False) (as := [.v (.ins c1 f1), .v d2]) (ds := [.ins c1 f1, d2]) R2 (.cons rx (.cons r2 .nil)) rfl rfl ?_
              rw [hm]
              exact fun v H5 H6 e3 R3 rr ap => by
                have rr : Rep K g.bx H5 v (.bl kk) := rr
                cases rr
                exact ⟨kk, rfl, q3 _ H5 H6 ((e1.trans e2).trans e3) R3 .bl trivial⟩
            | _ => exact q3.elim
    | _ => cases i1
theorem e_eqA (F : Dm X.prog X.w X.K X.mg X.base k c "__eq__" st ["other"] md) (hr : Room k' X.A) (ha : PEM X g W a ma) (hb : PEM X g W b mb) (hk : k ≤ k' := by decide) (hbm : behindInMarks .Eq b = false := by first | exact nobehind _ (by decide) (by decide) | rfl) : PEM X g W (.Compare a [.Eq] [b] pos) (cmpM c false md ma mb) := by
  obtain ⟨f, fd, FD, cl, me, F, bn⟩ := F
  exact PE.imp (pe_cmpR (op_eqA F me.at_ me.fn bn (hr.mono hk)) ha.d hb.d hbm) fun σ H Q q => cmp_use q
theorem e_neA (F : Dm X.prog X.w X.K X.mg X.base k c "__eq__" st ["other"] md) (OF : OpF X.K c) (hr : Room k' X.A) (ha : PEM X g W a ma) (hb : PEM X g W b mb) (hk : k + 1 ≤ k' := by decide) (hbm : behindInMarks .NotEq b = false := by first | exact nobehind _ (by decide) (by decide) | rfl) : PEM X g W (.Compare a [.NotEq] [b] pos) (cmpM c true md ma mb) := by
  obtain ⟨f, fd, FD, cl, me, F, bn⟩ := F
  exact PE.imp (pe_cmpR (op_neA F me.at_ me.fn bn (hr.mono hk) OF.ne OF.obj) ha.d hb.d hbm) fun σ H Q q => cmp_use q
def rpO (o : Out Unit RV) (s : S β) : Out (S β) RV := match o with
  | .ok (.v (.str z)) _ => .ok (.v (.str z)) s
  | _ => .bad
def reprM (c : Str) (md : DefM Unit) (m : M β RV) : M β RV := mbind m fun x => mIte (isO c x.d) (fun s => rpO (md [x.d] ()) s) mbad
theorem e_reprO (F : Dm X.prog X.w X.K X.mg X.base k c "__repr__" st [] md) (hr : Room k' X.A) (hR : X.mg "repr" = none) (h : PEM X g W e m) (hk : k + 1 ≤ k' := by decide) (hg : Gl X "repr" := by rfl)
    (he : starEach [e] X.env = (false, eval e X.env) :: starEach [] X.env := by rfl) (hpl : (backTo pos (starEach [] X.env)).any (·.1) = false := by rfl) : PEM X g W (.Call (.Name "repr" p) [e] [] pos) (reprM c md m) := by
  obtain ⟨f, fd, FD, cl, me, F, bn⟩ := F
  refine PE.imp (pe_callB (call_reprO F me.at_ me.fn bn (hr.mono hk)) hg hR (by decide +kernel) (pa_cons h.d pa_nil he) (he := he) (hpl := hpl)) fun σ H Q ⟨H0, s, R, q⟩ => ?_
  unfold reprM at q
  rw [on_bind] at q
  refine ⟨H0, s, R, Out.on_imp q (fun x s1 q v H1 H2 e1 R1 r1 => ?_) fun _ _ q => q⟩
  generalize x.d = d1 at r1 q
  cases hi : isO c d1 with
  | false => rw [hi] at q; exact q.elim
  | true =>
    rw [hi] at q
    have q3 : (rpO (md [d1] ()) s1).on _ _ := q
    cases d1 with
    | ins c1 f1 =>
      have i1 : c1 = c := of_decide_eq_true hi
      subst i1
      have rx := r1
      cases r1 with
      | @ins a1 C1 dx1 vs1 _ _ k0 k1 k2 k3 k4 =>
        subst k1
        refine ⟨a1, dx1, vs1, rfl, R1.r0.sub _ _ k0, ?_⟩
        cases hm : md [.ins c1 f1] () with
        | bad => rw [hm] at q3; exact q3.elim
        | exc x b => rw [hm] at q3; exact q3.elim
        | ok r b =>
          rw [hm] at q3
          cases r with
          | o _ => exact q3.elim
          | v dd =>
            cases dd with
            | str z =>
              refine spP (g := g) (W := fun _ _ _ _ => False) (as := [.v (.ins c1 f1)]) (ds := [.ins c1 f1]) R1 (.cons rx .nil) rfl rfl ?_
              rw [hm]
              exact fun v H5 H6 e3 R3 rr ap => by
                have rr : Rep X.K g.bx H5 v (.str z) := rr
                cases rr
                exact ⟨z, rfl, q3 _ H5 H6 (e1.trans e3) R3 .str trivial⟩
            | _ => exact q3.elim
    | _ => cases hi
def boolO (c : Str) : D → Option RV
  | .ins d _ => if d = c then some (.v (.bl true)) else none
  | _ => none
theorem e_boolO (OF : OpF X.K c) (hB : X.mg "bool" = none) (h : PEM X g W e m) (hg : Gl X "bool" := by rfl) (he : starEach [e] X.env = (false, eval e X.env) :: starEach [] X.env := by rfl) (hpl : (backTo pos (starEach [] X.env)).any (·.1) = false := by rfl) : PEM X g W (.Call (.Name "bool" p) [e] [] pos) (eUn (boolO c) m) :=
  PE.imp (pe_callTy call_boolO hg hB (by decide +kernel) (pa_cons h.d pa_nil he) (he := he) (hpl := hpl)) fun σ H Q ⟨H0, s, R, q⟩ => by
    unfold eUn at q
    rw [on_bind] at q
    refine ⟨H0, s, R, Out.on_imp q (fun x s1 z v H1 H2 e1 R1 r1 => ?_) fun _ _ q => q⟩
    rw [on_opt] at z
    obtain ⟨rz, ez, z⟩ := z
    generalize x.d = d1 at r1 ez
    cases d1 with
    | ins c1 f1 =>
      have ez : (if c1 = c then some (RV.v (.bl true)) else none) = some rz := ez
      by_cases hc : c1 = c
      · rw [if_pos hc] at ez
        cases ez
        subst hc
        cases r1 with
        | @ins a1 C1 dx1 vs1 _ _ k0 k1 k2 k3 k4 =>
          subst k1
          exact ⟨a1, _, dx1, vs1, rfl, R1.r0.sub _ _ k0, OF.bool, OF.len, z _ H1 H2 e1 R1 .bl trivial⟩
      · rw [if_neg hc] at ez; cases ez
    | _ => cases ez
end
end DL

set_option Elab.async false
set_option linter.all false
set_option maxRecDepth 100000
set_option maxHeartbeats 4000000
namespace DL
open PySem PySem.Spec PyProof.Rows L2 L2H
/-! ### C(..) where own lists are looked at: what is made holds no list -/
mutual
def nol : D → Bool
  | .non => true
  | .bl _ => true
  | .int _ => true
  | .str _ => true
  | .tup ds => nols ds
  | .lst _ => false
  | .box => false
  | .dct _ => false
  | .exc _ _ => false
  | .ins _ fs => nolF fs
def nols : List D → Bool
  | [] => true
  | d :: ds => nol d && nols ds
def nolF : List (Str × D) → Bool
  | [] => true
  | d :: ds => nol d.2 && nolF ds
end
theorem nols_at : ∀ {ds : List D} {i : Nat} {d : D}, nols ds = true → ds[i]? = some d → nol d = true
  | [], _, _, _, h => by simp at h
  | e :: ds, 0, d, h, hd => by
    unfold nols at h
    simp at hd
    rw [← hd]; exact (Bool.and_eq_true_iff.mp h).1
  | e :: ds, i + 1, d, h, hd => by
    unfold nols at h
    exact nols_at (Bool.and_eq_true_iff.mp h).2 (by simpa using hd)
theorem nolF_at : ∀ {ds : List (Str × D)} {i : Nat} {d : D}, nolF ds = true → (ds.map (·.2))[i]? = some d → nol d = true
  | [], _, _, _, h => by simp at h
  | e :: ds, 0, d, h, hd => by
    unfold nolF at h
    simp at hd
    rw [← hd]; exact (Bool.and_eq_true_iff.mp h).1
  | e :: ds, i + 1, d, h, hd => by
    unfold nolF at h
    exact nolF_at (i := i) (Bool.and_eq_true_iff.mp h).2 (by simpa using hd)
theorem nolF_s : ∀ {fs : List (Str × D)}, nolF fs = true → nols (fs.map (·.2)) = true
  | [], _ => rfl
  | e :: fs, h => by
    unfold nolF at h
    obtain ⟨h1, h2⟩ := Bool.and_eq_true_iff.mp h
    show (nol e.2 && nols (fs.map (·.2))) = true
    rw [h1, nolF_s h2]; rfl
open Classical in
/-- the heap without some addresses -/
noncomputable def dropH (P : Addr → Prop) (H : Hp) : Hp := fun a => if P a then none else H a
theorem dropH_at {P : Addr → Prop} {H : Hp} {a : Addr} (h : ¬ P a) : dropH P H a = H a := by unfold dropH; rw [if_neg h]
theorem dropH_no {P : Addr → Prop} {H : Hp} {a : Addr} (h : P a) : dropH P H a = none := by unfold dropH; rw [if_pos h]
theorem dropH_ex {P : Addr → Prop} {H : Hp} : Ex (dropH P H) H := fun a o e => by
  by_cases h : P a
  · rw [dropH_no h] at e; cases e
  · rw [dropH_at h] at e; exact e
theorem dropH_keep {P : Addr → Prop} {H : Hp} (hP : ∀ a, P a → ∃ vs, H a = some (.lst vs)) {a : Addr} {o : HO} (h : H a = some o) (n : ∀ vs, o ≠ .lst vs) : dropH P H a = some o := by
  rw [dropH_at fun p => ?_]
  · exact h
  · obtain ⟨vs, e⟩ := hP a p
    rw [h] at e; cases e
    exact n vs rfl
theorem dropH_rep {K : PySem.W.Frag} {bx : Addr} {H : Hp} {P : Addr → Prop} (hP : ∀ a, P a → ∃ vs, H a = some (.lst vs)) {v : V} {d : D} (r : Rep K bx H v d) : nol d = true → ∀ bx', Rep K bx' (dropH P H) v d := by
  induction r with
  | non => exact fun _ _ => .non
  | bl => exact fun _ _ => .bl
  | int => exact fun _ _ => .int
  | str => exact fun _ _ => .str
  | tup h l _ ih =>
    refine fun n bx' => .tup ?_ l fun i v d h1 h2 => ih i v d h1 h2 (nols_at (by unfold nol at n; exact n) h2) bx'
    rcases h with (h | ⟨o, h⟩) | h
    · exact .inl (.inl (dropH_keep hP h fun _ z => nomatch z))
    · exact .inl (.inr ⟨o, dropH_keep hP h fun _ z => nomatch z⟩)
    · exact .inr h
  | lst => exact fun n => by unfold nol at n; cases n
  | box => exact fun n => by unfold nol at n; cases n
  | dct => exact fun n => by unfold nol at n; cases n
  | exc => exact fun n => by unfold nol at n; cases n
  | ins h h1 h2 l _ ih => exact fun n bx' => .ins (dropH_keep hP h fun _ z => nomatch z) h1 (dropH_keep hP h2 fun _ z => nomatch z) l fun i v d k1 k2 => ih i v d k1 k2 (nolF_at (by unfold nol at n; exact n) k2) bx'
theorem dropH_reps {K : PySem.W.Frag} {bx bx' : Addr} {H : Hp} {P : Addr → Prop} (hP : ∀ a, P a → ∃ vs, H a = some (.lst vs)) {vs : List V} {ds : List D} (r : Reps K bx H vs ds) (n : nols ds = true) : Reps K bx' (dropH P H) vs ds :=
  ⟨r.len, fun i v d h1 h2 => dropH_rep hP (r.get i v d h1 h2) (nols_at n h2) bx'⟩
section
variable {β : Type} {X : Cx} {g : G β} {W : WX} {e : Expr} {es : List Expr} {ms : M β (List Arg)} {pos p : Pos} {c : Str} {k k' : Nat} {σ : L2.St} {H : Hp} {Q : VK}
def mkOwn (c : Str) : Out (IB c) RV → M β RV
  | .ok (.v .non) b => mIte (nolF b.fs) (mret (.v (.ins c b.fs))) mbad
  | .exc x _ => mIte (nolF x.fs) (fun s => .exc x s) mbad
  | _ => mbad
def makeB (c : Str) (n : Nat) (md : DefM (IB c)) (ms : M β (List Arg)) : M β RV := mbind ms fun as => mIte (as.length == n) (mbind (rsl as) fun ds => mIte (nbxs ds) (mkOwn c (md (.box :: ds) ⟨[]⟩)) mbad) mbad
theorem make_inB {K : PySem.W.Frag} {mg : Str → Option Value} {n : Nat} {md : DefM (IB c)} {H1 H2 : Hp} {s1 : S β} {vs : List V} {ds : List D} (R : Rel K g H1 σ H2 s1) (rs : Reps K g.bx (view σ s1.sl H1 H2) vs ds) (hn : ds.length = n) (hb : nbxs ds = true)
    (h : (mkOwn (β := β) c (md (.box :: ds) ⟨[]⟩) s1).on (ResP K g H1 σ Q) (Esc K mg g W H1 σ)) (x dx : Addr) (hx : H2 x = none) (hdx : H2 dx = none) (ne : dx ≠ x) :
    spOf K mg (n + 1) md (.ref x :: vs) (upd (upd H2 dx (.own x)) x (.ins (He.ga K c) dx [])) (fun v H3 => v = .non ∧ Q (.ref x) H3) (fun c d H => W c d σ H) := by
  generalize hHv : view σ s1.sl H1 H2 = Hv at rs
  have v12 : Ex H1 Hv := by rw [← hHv]; exact R.view_ex
  have v22 : Ex Hv H2 := by rw [← hHv]; exact R.view_sub
  have vO : ∀ a, Owned σ s1.sl a → ∃ vs, Hv a = some (.lst vs) := fun a ha => by
    obtain ⟨ws, e, _⟩ := R.own ha
    exact ⟨ws, by rw [← hHv, view_own ha]; exact e⟩
  have vN : ∀ a, ¬ Owned σ s1.sl a → Hv a = H1 a := fun a ha => by rw [← hHv, view_not ha]
  have hx1 : Hv x = none := v22.back hx
  have hdx1 : Hv dx = none := v22.back hdx
  generalize hHn : upd (upd H2 dx (.own x)) x (.ins (He.ga K c) dx []) = Hn
  have nx : Hn x = some (.ins (He.ga K c) dx []) := by rw [← hHn, upd_same]
  have nd : Hn dx = some (.own x) := by rw [← hHn, upd_ne ne, upd_same]
  have e2n : Ex H2 Hn := fun a o q => by
    rw [← hHn, upd_ne (ne_of_none q hx), upd_ne (ne_of_none q hdx)]; exact q
  have e1n : Ex Hv Hn := v22.trans e2n
  have key : ∀ (H3 H4 : Hp) (b : IB c), Ex Hv H3 → Rel0 (⟨x, insItp K c dx, insMono, frameOf x Hv Hn, []⟩ : G (IB c)) H3 H4 b →
      Ex H2 H4 ∧ Ex H1 (dropH (Owned σ s1.sl) H3) ∧ (∀ a o, dropH (Owned σ s1.sl) H3 a = some o → H1 a = some o ∨ H2 a = none) ∧ (∀ a, Owned σ s1.sl a → ∃ vs, H3 a = some (.lst vs)) ∧ H3 x = none ∧ H3 dx = none ∧ H4 dx = some (.own x) := fun H3 H4 b e1 r1 => by
    have fd : frameOf x Hv Hn dx = some (.own x) := by rw [frameOf_at ne hdx1]; exact nd
    refine ⟨fun a u q => frameOf_keep e1n e1 r1.sub r1.frm a u (ne_of_none q hx) (e2n a u q), fun a o q => ?_, fun a o q => ?_, fun a ha => ?_, r1.bxn, r1.dis dx _ fd, r1.frm dx _ fd⟩
    · have no : ¬ Owned σ s1.sl a := fun ho => by
        obtain ⟨_, _, n0, _⟩ := R.own ho
        rw [q] at n0; cases n0
      rw [dropH_at no]
      exact e1 a o (v12 a o q)
    · by_cases ho : Owned σ s1.sl a
      · rw [dropH_no ho] at q; cases q
      · rw [dropH_at ho] at q
        cases q1 : Hv a with
        | some o' =>
          have := e1 a o' q1
          rw [q] at this
          cases this
          exact .inl (by rw [← vN a ho]; exact q1)
        | none =>
          refine .inr ?_
          cases q2 : H2 a with
          | none => rfl
          | some u =>
            have f : frameOf x Hv Hn a = some u := by rw [frameOf_at (ne_of_none q2 hx) q1]; exact e2n a u q2
            have := r1.dis a u f
            rw [q] at this; cases this
    · obtain ⟨ws, z⟩ := vO a ha
      exact ⟨ws, e1 a _ z⟩
  refine ⟨⟨x, insItp K c dx, insMono, frameOf x Hv Hn, []⟩, Hv, ⟨[]⟩, .box :: ds, ⟨⟨dx, rfl⟩, rfl⟩, by rw [List.length_cons, hn], ⟨e1n, frameOf_sub, frameOf_dis, hx1, frameOf_bx, ⟨_, nx, [], rfl, rfl, fun bx => .nil⟩, TabsR.nil⟩, .cons .box (rs.rebox hb x), ?_⟩
  revert h
  cases md (.box :: ds) ⟨[]⟩ with
  | bad => exact fun h => h.elim
  | exc xx b =>
    intro h cc dd H3 H4 e1 r1 Xr
    obtain ⟨k1, k2, k3, k4, _⟩ := key H3 H4 b e1 r1
    cases hb2 : nolF xx.fs with
    | false =>
      have h : (mIte (nolF xx.fs) (fun s => Out.exc xx s) (mbad : M β RV) s1).on (ResP K g H1 σ Q) (Esc K mg g W H1 σ) := h
      rw [hb2] at h; exact h.elim
    | true =>
      have h : (mIte (nolF xx.fs) (fun s => Out.exc xx s) (mbad : M β RV) s1).on (ResP K g H1 σ Q) (Esc K mg g W H1 σ) := h
      rw [hb2] at h
      obtain ⟨z1, d, fs, z2, z3, z4, z5⟩ := Xr
      exact h cc dd _ H4 k2 (R.grow k2 k1 (dropH_ex.trans r1.sub) k3) ⟨z1, d, fs, z2, dropH_keep k4 z3 (fun _ z => nomatch z), z4, dropH_reps k4 z5 (nolF_s hb2)⟩
  | ok r b =>
    intro h v H3 H4 e1 r1 rr
    obtain ⟨k1, k2, k3, k4, k5, k6, k7⟩ := key H3 H4 b e1 r1
    cases r with
    | o _ => exact h.elim
    | v d =>
      cases d with
      | non =>
        have h : (mIte (nolF b.fs) (mret (.v (.ins c b.fs))) (mbad : M β RV) s1).on (ResP K g H1 σ Q) (Esc K mg g W H1 σ) := h
        cases hb2 : nolF b.fs with
        | false => rw [hb2] at h; exact h.elim
        | true =>
          rw [hb2] at h
          have rr : Rep K x H3 v .non := rr
          cases rr
          refine ⟨rfl, ?_⟩
          obtain ⟨o, h4, ws, rfl, w1, w2⟩ := r1.it
          have h4 : H4 x = some (.ins (He.ga K c) dx ws) := h4
          have d5 : dropH (Owned σ s1.sl) H3 x = none := dropH_ex.back k5
          have d6 : dropH (Owned σ s1.sl) H3 dx = none := dropH_ex.back k6
          have e33 : Ex (dropH (Owned σ s1.sl) H3) (upd (upd (dropH (Owned σ s1.sl) H3) dx (.own x)) x (.ins (He.ga K c) dx ws)) := fun a o q => by
            rw [upd_ne (ne_of_none q d5), upd_ne (ne_of_none q d6)]; exact q
          refine h (.ref x) (upd (upd (dropH (Owned σ s1.sl) H3) dx (.own x)) x (.ins (He.ga K c) dx ws)) H4 (k2.trans e33) (R.grow (k2.trans e33) k1 (fun a o q => ?_) fun a o q => ?_) (.ins (dx := dx) (vs := ws) upd_same rfl (by rw [upd_ne ne, upd_same]) w1 ((dropH_reps (bx' := g.bx) k4 (w2 g.bx) (nolF_s hb2)).mono e33).get) trivial
          · by_cases ha : a = x
            · rw [ha, upd_same] at q
              rw [ha, ← q]; exact h4
            · rw [upd_ne ha] at q
              by_cases hd : a = dx
              · rw [hd, upd_same] at q
                rw [hd, ← q]; exact k7
              · rw [upd_ne hd] at q
                exact r1.sub a o (dropH_ex a o q)
          · by_cases ha : a = x
            · rw [ha]; exact .inr hx
            · rw [upd_ne ha] at q
              by_cases hd : a = dx
              · rw [hd]; exact .inr hdx
              · rw [upd_ne hd] at q
                exact k3 a o q
      | _ => exact h.elim
theorem e_makeB {n : Nat} {ps : List Str} {md : DefM (IB c)} {st : Stmt} (F : Dc X.prog X.w X.K X.mg X.base k c st ps md) (hr : Room k' X.A) (tk : L2N.Takes X W) (ha : PABM X g W (e :: es) ms) (hk : k + 1 ≤ k' := by decide) (hg : Gl X c := by rfl)
    (hdb : (c == ("__debug__" : Str)) = false := by decide) (he : starEach (e :: es) X.env = (false, eval e X.env) :: starEach es X.env := by rfl) (hpl : (backTo pos (starEach es X.env)).any (·.1) = false := by rfl) (hn : ps.length = n := by rfl) : PEM X g W (.Call (.Name c p) (e :: es) [] pos) (makeB c n md ms) := by
  subst hn
  obtain ⟨f, fd, M, FD, gl, F, bn⟩ := F
  refine PE.imp (pe_makeSD (E := fun σ c d H => W c d σ H) M F (hr.mono hk) hg gl bn (fun σ => L2N.passAt tk σ) ha hdb he hpl) fun σ H Q h => ?_
  obtain ⟨H0, s, R, h⟩ := h
  unfold makeB at h
  rw [on_bind] at h
  refine ⟨H0, s, R, Out.on_imp h (fun as s1 h vs H1 H2 e1 R1 ra x dx hx hdx ne => ?_) fun _ _ q => q⟩
  cases hl : (as.length == ps.length) with
  | false => rw [hl] at h; exact h.elim
  | true =>
    rw [hl] at h
    have h : (mbind (rsl as) (fun ds => mIte (nbxs ds) (mkOwn c (md (.box :: ds) ⟨[]⟩)) mbad) s1).on _ _ := h
    rw [on_bind, on_rsl] at h
    obtain ⟨ds, eds, h⟩ := h
    cases hb : nbxs ds with
    | false => rw [hb] at h; exact h.elim
    | true =>
      rw [hb] at h
      have rs := R1.res_view ra eds
      exact make_inB R1 rs (by rw [← rs.len, ra.len]; exact of_decide_eq_true hl) hb (Out.on_imp h (fun r s2 q v H3 H4 e2 R2 rr ap => q v H3 H4 (e1.trans e2) R2 rr ap) fun _ _ q => q.back e1) x dx hx hdx ne
end
/-! ### a, b = e, e2 where names have cells: the pair is laid and taken apart -/
section
variable {β : Type} {X : Cx} {g : G β} {W : WX} {a b : Expr} {ma mb : M β RV} {pos : Pos}
theorem s_parC {i j : Nat} {x y : Str} {px py pt : Pos} {kt k2 pt2} (hN : X.N.Nodup) (ha : PEM X g W a ma) (hb : ∀ F, PEM X (g.wF F) W b mb) (hc : X.calm = true := by rfl) (hi : X.N[i]? = some x := by rfl) (hj : X.N[j]? = some y := by rfl) (hij : i ≠ j := by decide)
    (hx : Loc X.env.scope x := by first | exact Or.inl rfl | exact Or.inr rfl) (hy : Loc X.env.scope y := by first | exact Or.inl rfl | exact Or.inr rfl)
    (fx : X.fn x = true ∨ X.env.scope.names.lookup x = some .local := by first | exact .inl rfl | exact .inr rfl | assumption) (fy : X.fn y = true ∨ X.env.scope.names.lookup y = some .local := by first | exact .inl rfl | exact .inr rfl | assumption)
    (h1 : starEach (a :: [b]) X.env = (false, eval a X.env) :: starEach [b] X.env := by rfl) (h2 : starEach (b :: []) X.env = (false, eval b X.env) :: starEach [] X.env := by rfl)
    (hw : swappedStores [.Tuple [.Name x px, .Name y py] kt pt] (.Tuple [a, b] k2 pt2) X.env = pure none := by rfl)
    (hs : swapsWithSole [.Tuple [.Name x px, .Name y py] kt pt] (.Tuple [a, b] k2 pt2) pos.line X.env = pure false := by rfl)
    (z1 : (assignEach [.Tuple [.Name x px, .Name y py] kt pt] X.env).map (·.2) = [assign (.Tuple [.Name x px, .Name y py] kt pt) X.env] := by rfl)
    (z2 : (assignEach (Expr.Name x px :: [.Name y py]) X.env).map (·.2) = assign (.Name x px) X.env :: (assignEach [.Name y py] X.env).map (·.2) := by rfl)
    (z3 : (assignEach (Expr.Name y py :: []) X.env).map (·.2) = assign (.Name y py) X.env :: (assignEach [] X.env).map (·.2) := by rfl)
    (z4 : (assignEach [Expr.Name x px, .Name y py] X.env).length = 2 := by rfl) (z5 : (assignEach [Expr.Name x px, .Name y py] X.env).findIdx? (·.1) = none := by rfl) : PSM X g W (.Assign [.Tuple [.Name x px, .Name y py] kt pt] (.Tuple [a, b] k2 pt2) pos) (parO i j ma mb) := by
  have hb' : PE X b (tEG X.K X.mg g W mb) := ⟨fun pins s σ H Q I ⟨F, q⟩ => (hb F).run pins s σ H Q I q⟩
  refine PS.imp (ps_asg (pe_tup (pa_cons ha (pa_cons hb' pa_nil h2) h1)) (pg_tup (n := 2) hc (pgs_cons (pg_name hN hi hx fx) (pgs_cons (pg_name hN hj hy fy) pgs_nil z3) z2) z4 z5) hs hw z1) fun D σ H ⟨H0, s, R, q⟩ => ?_
  unfold parO at q
  rw [on_bind] at q
  refine ⟨H0, s, R, Out.on_imp q (fun r s1 q v H1 H2 e R1 rr ap => ?_) fun _ _ q => q.e⟩
  rw [on_bind] at q
  cases r with
  | v d =>
    refine ⟨g.F, H1, s1, R1, Out.on_imp (on_noX q) (fun r2 s2 q w H3 H4 e2 R2 rr2 ap2 => ?_) fun _ _ q => q⟩
    have R2 : Rel X.K g H3 σ H4 s2 := R2
    rw [on_bind] at q
    obtain ⟨l1, q⟩ := on_stV q
    rw [on_bind] at q
    obtain ⟨l2, q⟩ := on_stV q
    refine ⟨by show 2 ≤ _; decide, fun p hp => ⟨p, _, rfl, .inl (.inl upd_same), rfl, v, [w], rfl, w, [], rfl, rfl, ?_⟩⟩
    refine q _ H3 _ (e.trans e2) (Rel.grow (Rel.set (R2.set (r := .v d) (by rw [← R2.len]; exact l1) (Rep.mono rr e2) trivial) (by rw [List.length_set, ← R2.len]; simpa using l2) rr2 ?_) (Ex.refl _) (Ex.new hp) (R2.r0.sub.trans (Ex.new hp)) fun _ _ z => .inl z)
    cases r2 with
    | v d2 => trivial
    | o es =>
      intro k es' p ep h3 h4
      have h3 : (s2.sl.set i (.v d))[k]? = some (.o es') := h3
      by_cases hk : i = k
      · subst hk
        rw [List.getElem?_set_self l1] at h3
        cases h3
      · rw [List.getElem?_set_ne hk] at h3 h4
        exact ap2 k es' p ep h3 h4
  | o ds =>
    obtain ⟨p, vs, rfl, hp, rs, n0, nF, nb⟩ := rr
    have R1' := R1.pin hp n0 nb fun i es h => ap i es p rfl h
    refine ⟨upd g.F p (.lst vs), H1, s1, R1', Out.on_imp (on_noX q) (fun r2 s2 q w H3 H4 e2 R2 rr2 ap2 => ?_) fun _ _ q => q⟩
    obtain ⟨Rf, hpl, m0, mb', no⟩ := R2.free nF
    rw [on_bind] at q
    obtain ⟨l1, q⟩ := on_stV q
    rw [on_bind] at q
    obtain ⟨l2, q⟩ := on_stV q
    have r1 : ResR X.K g H3 H4 (.ref p) (.o ds) := ⟨p, vs, rfl, hpl, rs.mono e2, m0, nF, mb'⟩
    have a1 : Apart σ s2.sl (.ref p) (.o ds) := fun k es q' eq h3 h4 => by
      cases eq
      exact no ⟨k, es, h3, h4⟩
    have rr2' : ResR X.K g H3 H4 w r2 := by
      cases r2 with
      | v d2 => exact rr2
      | o es =>
        obtain ⟨p2, ws, rfl, z1, z2, z3, z4, z5⟩ := rr2
        refine ⟨p2, ws, rfl, z1, z2, z3, ?_, z5⟩
        cases hz : g.F p2 with
        | none => rfl
        | some o =>
          have z4 : upd g.F p (.lst vs) p2 = none := z4
          rw [upd_ne fun z => ?_] at z4
          · rw [z4] at hz; cases hz
          · rw [z] at hz; rw [nF] at hz; cases hz
    refine ⟨by show 2 ≤ _; decide, fun pp hpp => ⟨pp, _, rfl, .inl (.inl upd_same), rfl, .ref p, [w], rfl, w, [], rfl, rfl, ?_⟩⟩
    refine q _ H3 _ (e.trans e2) (Rel.grow (Rel.set (Rf.set (r := .o ds) (by rw [← Rf.len]; exact l1) r1 a1) (by rw [List.length_set, ← Rf.len]; simpa using l2) rr2' ?_) (Ex.refl _) (Ex.new hpp) (Rf.r0.sub.trans (Ex.new hpp)) fun _ _ z => .inl z)
    cases r2 with
    | v d2 => trivial
    | o es =>
      intro k es' p' ep h3 h4
      have h3 : (s2.sl.set i (.o ds))[k]? = some (.o es') := h3
      by_cases hk : i = k
      · subst hk
        rw [List.getElem?_set_self (by rw [← Rf.len]; exact l1)] at h4
        cases h4
        obtain ⟨p2, ws, z0, z1, z2, z3, z4, z5⟩ := rr2
        rw [ep] at z0; cases z0
        have z4 : upd g.F p (.lst vs) p = none := z4
        rw [upd_same] at z4; cases z4
      · rw [List.getElem?_set_ne hk] at h3 h4
        exact ap2 k es' p' ep h3 h4
end
end DL

set_option Elab.async false
set_option linter.all false
set_option maxRecDepth 100000
set_option maxHeartbeats 4000000
namespace DL
open PySem PySem.Spec PyProof.Rows L2 L2H
/-! ### f([x, y], e): a list of one's own lists is looked at -/
section
variable {β : Type} {X : Cx} {g : G β} {W : WX} {b : Expr} {mb : M β RV} {pos p : Pos} {x : Str} {k k' : Nat} {st : Stmt} {ps : List Str}
def outL : Out Unit RV → M β RV
  | .ok r _ => mIte (scalR r) (mret r) mbad
  | _ => mbad
def callPL (md : DefM Unit) (i j : Nat) (mb : M β RV) : M β RV := mbind (rsl [.b i, .b j]) fun _ => mbind (noX mb) fun r => mbind (rsl [.b i, .b j]) fun ds => outL (md [.lst ds, r.d] ())
def tDG (K : PySem.W.Frag) (mg : Str → Option Value) (g : G β) (W : WX) (m : M β RV) : TE := fun σ H Q => ∃ F, tD K mg (g.wF F) W m σ H Q
theorem resL2 {sl : List Slot} {i j : Nat} {ds : List D} (h : resL sl [.b i, .b j] = some ds) : (∃ d, (sl[i]?).bind slotC = some d) ∧ ∃ d, (sl[j]?).bind slotC = some d := by
  simp only [resL] at h
  cases h1 : (sl[i]?).bind slotC with
  | none => rw [h1] at h; cases h
  | some d1 =>
    cases h2 : (sl[j]?).bind slotC with
    | none => rw [h1, h2] at h; cases h
    | some d2 => exact ⟨⟨d1, rfl⟩, ⟨d2, rfl⟩⟩
theorem e_cPL {i j : Nat} {n1 n2 : Str} {p1 p2 lp : Pos} {md : DefM Unit} (F : Dx X.prog X.w X.K X.mg X.base k x st ps md) (hr : Room k' X.A) (tk : L2N.Takes X W) (hb : ∀ F, PEM X (g.wF F) W b mb) (hk : k ≤ k' := by decide) (hg : Gl X x := by rfl)
    (hi : X.N[i]? = some n1 := by rfl) (hj : X.N[j]? = some n2 := by rfl) (v1 : Vis X.env.scope n1 := by first | exact Or.inl rfl | exact Or.inr (Or.inl rfl) | exact Or.inr (Or.inr rfl)) (v2 : Vis X.env.scope n2 := by first | exact Or.inl rfl | exact Or.inr (Or.inl rfl) | exact Or.inr (Or.inr rfl))
    (d1 : (n1 == ("__debug__" : Str)) = false := by decide) (c1 : (n1 == ("__classdict__" : Str)) = false := by decide) (d2 : (n2 == ("__debug__" : Str)) = false := by decide) (c2 : (n2 == ("__classdict__" : Str)) = false := by decide)
    (z1 : starEach (Expr.Name n1 p1 :: [.Name n2 p2]) X.env = (false, eval (.Name n1 p1) X.env) :: starEach [.Name n2 p2] X.env := by rfl) (z2 : starEach (Expr.Name n2 p2 :: []) X.env = (false, eval (.Name n2 p2) X.env) :: starEach [] X.env := by rfl)
    (hdb : (x == ("__debug__" : Str)) = false := by decide) (he : starEach (.List [.Name n1 p1, .Name n2 p2] lp :: [b]) X.env = (false, eval (.List [.Name n1 p1, .Name n2 p2] lp) X.env) :: starEach [b] X.env := by rfl) (he2 : starEach (b :: []) X.env = (false, eval b X.env) :: starEach [] X.env := by rfl)
    (hpl : (backTo pos (starEach [b] X.env)).any (·.1) = false := by rfl) (hn : ps.length = 2 := by rfl) : PEM X g W (.Call (.Name x p) [.List [.Name n1 p1, .Name n2 p2] lp, b] [] pos) (callPL md i j mb) := by
  obtain ⟨f, fd, D, bn⟩ := F
  have hb' : PE X b (tDG X.K X.mg g W mb) := ⟨fun pins s σ H Q I ⟨F, q⟩ => (hb F).d.run pins s σ H Q I q⟩
  refine PE.imp (pe_callSD (E := fun σ c d H => W c d σ H) D.ok (hr.mono hk) hg D.gl D.fn.kp bn .nil (fun σ => L2N.passAt tk σ) (pa_cons (pe_lst (pa_cons (pe_var hi v1 d1 c1) (pa_cons (pe_var hj v2 d2 c2) pa_nil z2) z1)) (pa_cons hb' pa_nil he2) he) hdb he hpl) fun σ H Q ⟨H0, s, R, q⟩ => ?_
  unfold callPL at q
  rw [on_bind, on_rsl] at q
  obtain ⟨ds0, e0, q⟩ := q
  obtain ⟨⟨da, ea⟩, ⟨db, eb⟩⟩ := resL2 e0
  obtain ⟨u1, hu1⟩ := R.slot_at ea
  obtain ⟨u2, hu2⟩ := R.slot_at eb
  refine ⟨u1, hu1, u2, hu2, by show 2 ≤ _; decide, fun q0 hq0 => ?_⟩
  rw [on_bind] at q
  have nF : g.F q0 = none := by
    cases z : g.F q0 with
    | none => rfl
    | some o => rw [R.r0.frm q0 o z] at hq0; cases hq0
  have nb : q0 ≠ g.bx := fun z => by
    obtain ⟨o, hb, _⟩ := R.r0.it
    rw [← z, hq0] at hb; cases hb
  have R1 : Rel X.K g H0 σ (upd H q0 (.lst [u1, u2])) s := R.grow (Ex.refl _) (Ex.new hq0) (R.r0.sub.trans (Ex.new hq0)) (fun _ _ z => .inl z)
  have Rp : Rel X.K (g.wF (upd g.F q0 (.lst [u1, u2]))) H0 σ (upd H q0 (.lst [u1, u2])) s := R1.pin upd_same (R.r0.sub.back hq0) nb fun i' es h z => by
    obtain ⟨p', ws, e1, e2, _⟩ := R.slot i' _ _ h z
    cases e1
    rw [hq0] at e2; cases e2
  refine ⟨upd g.F q0 (.lst [u1, u2]), H0, s, Rp, Out.on_imp (on_noX q) (fun r s2 q w H3 H4 e2 R2 rr => ?_) fun _ _ q => q⟩
  obtain ⟨Rf, hp4, m0, mb', no⟩ := R2.free nF
  rw [on_bind, on_rsl] at q
  obtain ⟨ds, eds, q⟩ := q
  have rr : Rep X.K g.bx H3 w r.d := rr
  have ar : ArgsR X.K g H3 σ [u1, u2] [.b i, .b j] := .cons hu1 (.cons hu2 .nil)
  have rs := Rf.res_view ar eds
  generalize hHv : view σ s2.sl H3 H4 = Hv at rs
  have vx : Ex H3 Hv := by rw [← hHv]; exact Rf.view_ex
  have vs' : Ex Hv H4 := by rw [← hHv]; exact Rf.view_sub
  have vp : Hv q0 = none := by rw [← hHv, view_not no]; exact m0
  have vbx : Hv g.bx = none := by
    rw [← hHv]
    by_cases ho : Owned σ s2.sl g.bx
    · obtain ⟨_, _, _, _, nb⟩ := Rf.own ho
      exact absurd rfl nb
    · rw [view_not ho]; exact Rf.r0.bxn
  have xp : Ex Hv (upd Hv q0 (.lst [u1, u2])) := Ex.new vp
  have xs : Ex (upd Hv q0 (.lst [u1, u2])) H4 := fun a o e => by
    by_cases ha : a = q0
    · subst ha; rw [upd_same] at e; cases e; exact hp4
    · rw [upd_ne ha] at e; exact vs' a o e
  obtain ⟨o, ho, io⟩ := Rf.r0.it
  show spOf X.K X.mg ps.length md [.ref q0, w] H4 Q _
  refine ⟨⟨g.bx, fun _ _ o' => o' = o, fun _ h => h, frameOf g.bx (upd Hv q0 (.lst [u1, u2])) H4, []⟩, upd Hv q0 (.lst [u1, u2]), (), [.lst ds, r.d], trivial, hn.symm, ⟨xs, frameOf_sub, frameOf_dis, by rw [upd_ne (Ne.symm nb)]; exact vbx, frameOf_bx, ⟨o, ho, rfl⟩, TabsR.nil⟩, .cons (.lstR upd_same (rs.mono xp)) (.cons (rr.mono (vx.trans xp)) .nil), ?_⟩
  revert q
  cases md [.lst ds, r.d] () with
  | bad => exact fun h => h
  | exc x b => exact fun h => h.elim
  | ok r2 b2 =>
    intro h v H5 H6 e1 r1 rr2
    have h : (mIte (scalR r2) (mret r2) mbad s2).on _ _ := h
    cases sc : scalR r2 with
    | false => rw [sc] at h; exact h.elim
    | true =>
      rw [sc] at h
      cases r2 with
      | o es => cases sc
      | v d =>
        have keep : Ex H4 H6 := fun a u q => by
          by_cases hab : a = g.bx
          · obtain ⟨o', hb', hit⟩ := r1.it
            have hit : o' = o := hit
            subst hit
            have hb' : H6 g.bx = some o' := hb'
            rw [hab, ho] at q; cases q
            rw [hab]; exact hb'
          · exact frameOf_keep xs e1 r1.sub r1.frm a u hab q
        exact h v H3 H6 e2 (Rf.more keep) (scal_rep sc rr2) trivial
end
section
variable {β : Type} {X : Cx} {g : G β} {W : WX} {a b e : Expr} {m ma mb : M β RV} {pos : Pos} {c : Str} {k k' : Nat} {st : Stmt} {md : DefM Unit}
theorem e_noX (h : PEM X g W0 e m) : PEM X g W e (noX m) := PE.imp h fun σ H Q ⟨H0, s, R, q⟩ => ⟨H0, s, R, Out.on_imp (on_noX (e' := Esc X.K X.mg g W0 H0 σ) q) (fun _ _ q => q) fun _ _ q => q⟩
theorem t_eqA (F : Dm X.prog X.w X.K X.mg X.base k c "__eq__" st ["other"] md) (hr : Room k' X.A) (ha : PEM X g W a ma) (hb : PEM X g W b mb) (hk : k ≤ k' := by decide) (hbm : behindInMarks .Eq b = false := by first | exact nobehind _ (by decide) (by decide) | rfl) : PTM X g W (.Compare a [.Eq] [b] pos) (tstB (cmpM c false md ma mb)) := by
  obtain ⟨f, fd, FD, cl, me, F, bn⟩ := F
  exact PT.imp (pt_cmpR (op_eqA F me.at_ me.fn bn (hr.mono hk)) ha.d hb.d hbm) fun σ H Q q => cmp_use (tst_tE q)
theorem t_neA (F : Dm X.prog X.w X.K X.mg X.base k c "__eq__" st ["other"] md) (OF : OpF X.K c) (hr : Room k' X.A) (ha : PEM X g W a ma) (hb : PEM X g W b mb) (hk : k + 1 ≤ k' := by decide) (hbm : behindInMarks .NotEq b = false := by first | exact nobehind _ (by decide) (by decide) | rfl) : PTM X g W (.Compare a [.NotEq] [b] pos) (tstB (cmpM c true md ma mb)) := by
  obtain ⟨f, fd, FD, cl, me, F, bn⟩ := F
  exact PT.imp (pt_cmpR (op_neA F me.at_ me.fn bn (hr.mono hk) OF.ne OF.obj) ha.d hb.d hbm) fun σ H Q q => cmp_use (tst_tE q)
end
end DL

set_option Elab.async false
set_option linter.all false
set_option maxRecDepth 100000
set_option maxHeartbeats 4000000
namespace K03
open PySem PySem.Spec L2 L2H DL
structure Bl (K : PySem.W.Frag) (mg : Str → Option Value) : Prop where
  IndexError : mg "IndexError" = none
  KeyError : mg "KeyError" = none
  LookupError : mg "LookupError" = none
  RuntimeError : mg "RuntimeError" = none
  ValueError : mg "ValueError" = none
  bool : mg "bool" = none
  dict : mg "dict" = none
  int : mg "int" = none
  isinstance : mg "isinstance" = none
  len : mg "len" = none
  list : mg "list" = none
  range : mg "range" = none
  repr : mg "repr" = none
  str : mg "str" = none
  tuple : mg "tuple" = none
  OP_Stream : OpF K "Stream"
  TI : InsF K insX
  TC_Stream : IsC K mg "Stream" csX
theorem sc_letter_count : FnScope ["base", "width"] ["base", "width"] (defScope s_letter_count) := ⟨rfl, rfl, rfl, by decide +kernel, rfl, by decide +kernel, by decide +kernel⟩
def b_letter_count : M Unit Fl := retM (eIfM (tstB (eBinB eqD (argN 1) (argV (cst (.int 1))))) (rdV 0) (eBin mulD (rdV 0) (rdV 0)))
def m_letter_count : DefM Unit := runDef 2 b_letter_count
theorem d_letter_count {P : Program} {w : World} {K : PySem.W.Frag} {mg : Str → Option Value} {base : Heap} (FD : Fd K mg "letter_count" s_letter_count) (B : Bl K mg)  : Dx P w K mg base 1 "letter_count" s_letter_count ["base", "width"] m_letter_count :=
  dx_mk ["base", "width"] FD sc_letter_count (fun _ _ _ _ _ _ us hl => match us, hl with | [_, _], _ => rfl) fun f cdv A outer s H E g hG hr =>
    (ss_one (s_ret (e_if (t_cmpB (c_eq hr.units) (b_n 1) (b_e e_int)) (e_v 0) (e_mul (e_v 0) (e_v 0)))))
theorem sc_shortest_writing : FnScope ["head", "period", "size", "length", "taken", "cut"] ["head", "period"] (defScope s_shortest_writing) := ⟨rfl, rfl, rfl, by decide +kernel, rfl, by decide +kernel, by decide +kernel⟩
def q_shortest_writing_1t : D → M Unit Unit := (fun d => stV 3 (.v d))
def q_shortest_writing_2b : M Unit Fl := ifM (tAndM (tstB (eBinB eqD (argV (eBin modD (rdV 2) (rdV 3))) (argV (cst (.int 0))))) (tstB (eBinB eqD (argV (eBin mulTD (eSl (argN 1) (mret none) (partM (rdV 3))) (eBin fdivD (rdV 2) (rdV 3)))) (argN 1)))) (seqM (asgM 1 (eSl (argN 1) (mret none) (partM (rdV 3)))) (mret .bk)) (mret .nx)
def q_shortest_writing_3c : M Unit Bool := tAndM (tstB (eBinB ltD (argN 4) (argV (eAppB lenF (argC (argN 0) (mret [])))))) (tstB (eBinB eqD (argV (eIx (argN 0) (eBin subD (eBin subD (eAppB lenF (argC (argN 0) (mret []))) (cst (.int 1))) (rdV 4)))) (argV (eIx (argN 1) (eBin subD (eBin subD (rdV 2) (cst (.int 1))) (eBin modD (rdV 4) (rdV 2)))))))
def q_shortest_writing_4b : M Unit Fl := augM 4 iaddD (cst (.int 1))
def b_shortest_writing : M Unit Fl := seqM (asgM 2 (eAppB lenF (argC (argN 1) (mret [])))) (seqM (forM (rngM2 (lstC (cst (.int 1)) (lstC (eBin addD (rdV 2) (cst (.int 1))) (mret [])))) q_shortest_writing_1t q_shortest_writing_2b) (seqM (asgM 2 (eAppB lenF (argC (argN 1) (mret [])))) (seqM (asgM 4 (cst (.int 0))) (seqM (whM 1000000 q_shortest_writing_3c q_shortest_writing_4b) (seqM (asgM 5 (eBin subD (rdV 2) (eBin modD (rdV 4) (rdV 2)))) (retM (eApp tupD (lstC (eSl (argN 0) (mret none) (partM (eBin subD (eAppB lenF (argC (argN 0) (mret []))) (rdV 4)))) (lstC (eBin addD (eSl (argN 1) (partM (rdV 5)) (mret none)) (eSl (argN 1) (mret none) (partM (rdV 5)))) (mret []))))))))))
def m_shortest_writing : DefM Unit := runDef 6 b_shortest_writing
theorem d_shortest_writing {P : Program} {w : World} {K : PySem.W.Frag} {mg : Str → Option Value} {base : Heap} (FD : Fd K mg "shortest_writing" s_shortest_writing) (B : Bl K mg)  : Dx P w K mg base 1 "shortest_writing" s_shortest_writing ["head", "period"] m_shortest_writing :=
  dx_mk ["head", "period", "size", "length", "taken", "cut"] FD sc_shortest_writing (fun _ _ _ _ _ _ us hl => match us, hl with | [_, _], _ => rfl) fun f cdv A outer s H E g hG hr =>
    (ss_cons (s_asg 2 sc_shortest_writing.nd (e_bltB b_len (by rfl) B.len (by decide +kernel) (a_cons (b_n 1) a_nil))) (ss_cons (s_for (passes_of rfl) rfl (i_range2 B.range (l_cons e_int (l_cons (e_add (e_v 2) e_int) l_nil))) (g_name 3 sc_shortest_writing.nd) (ss_one (s_if (t_w (w_and (t_cmpB (c_eq hr.units) (b_e (e_mod (e_v 2) (e_v 3))) (b_e e_int)) (w_and1 (t_cmpB (c_eq hr.units) (b_e (e_mulT (e_sl (b_n 1) p_none (p_some (e_v 3))) (e_fdiv (e_v 2) (e_v 3)))) (b_n 1))))) (ss_cons (s_asg 1 sc_shortest_writing.nd (e_sl (b_n 1) p_none (p_some (e_v 3)))) (ss_one s_break)) ss_nil))) (ss_cons (s_asg 2 sc_shortest_writing.nd (e_bltB b_len (by rfl) B.len (by decide +kernel) (a_cons (b_n 1) a_nil))) (ss_cons (s_asg 4 sc_shortest_writing.nd e_int) (ss_cons (s_while 1000000 (passes_of rfl) (t_w (w_and (t_cmpB c_lt (b_n 4) (b_e (e_bltB b_len (by rfl) B.len (by decide +kernel) (a_cons (b_n 0) a_nil)))) (w_and1 (t_cmpB (c_eq hr.units) (b_e (e_ix (b_n 0) (e_sub (e_sub (e_bltB b_len (by rfl) B.len (by decide +kernel) (a_cons (b_n 0) a_nil)) e_int) (e_v 4)))) (b_e (e_ix (b_n 1) (e_sub (e_sub (e_v 2) e_int) (e_mod (e_v 4) (e_v 2))))))))) (ss_one (s_aug 4 i_add sc_shortest_writing.nd e_int))) (ss_cons (s_asg 5 sc_shortest_writing.nd (e_sub (e_v 2) (e_mod (e_v 4) (e_v 2)))) (ss_one (s_ret (e_tup (l_cons (e_sl (b_n 0) p_none (p_some (e_sub (e_bltB b_len (by rfl) B.len (by decide +kernel) (a_cons (b_n 0) a_nil)) (e_v 4)))) (l_cons (e_add (e_sl (b_n 1) (p_some (e_v 5)) p_none) (e_sl (b_n 1) p_none (p_some (e_v 5)))) l_nil)))))))))))
theorem sc_digit_at : FnScope ["digits", "at", "head", "period"] ["digits", "at"] (defScope s_digit_at) := ⟨rfl, rfl, rfl, by decide +kernel, rfl, by decide +kernel, by decide +kernel⟩
def b_digit_at : M Unit Fl := seqM (asgT (rdV 0) (gtM 2 (gsC (fun d => stV 2 (.v d)) (gsC (fun d => stV 3 (.v d)) (fun ds => match ds with | [] => mret () | _ => mbad))))) (seqM (ifM (tstB (eBinB ltD (argN 1) (argV (eAppB lenF (argC (argN 2) (mret [])))))) (retM (eIx (argN 2) (rdV 1))) (mret .nx)) (retM (eIx (argN 3) (eBin modD (eBin subD (rdV 1) (eAppB lenF (argC (argN 2) (mret [])))) (eAppB lenF (argC (argN 3) (mret [])))))))
def m_digit_at : DefM Unit := runDef 4 b_digit_at
theorem d_digit_at {P : Program} {w : World} {K : PySem.W.Frag} {mg : Str → Option Value} {base : Heap} (FD : Fd K mg "digit_at" s_digit_at) (B : Bl K mg)  : Dx P w K mg base 1 "digit_at" s_digit_at ["digits", "at"] m_digit_at :=
  dx_mk ["digits", "at", "head", "period"] FD sc_digit_at (fun _ _ _ _ _ _ us hl => match us, hl with | [_, _], _ => rfl) fun f cdv A outer s H E g hG hr =>
    (ss_cons (s_asgT (e_v 0) (g_tup rfl (gs_cons (g_name 2 sc_digit_at.nd) (gs_cons (g_name 3 sc_digit_at.nd) gs_nil)))) (ss_cons (s_if (t_cmpB c_lt (b_n 1) (b_e (e_bltB b_len (by rfl) B.len (by decide +kernel) (a_cons (b_n 2) a_nil)))) (ss_one (s_ret (e_ix (b_n 2) (e_v 1)))) ss_nil) (ss_one (s_ret (e_ix (b_n 3) (e_mod (e_sub (e_v 1) (e_bltB b_len (by rfl) B.len (by decide +kernel) (a_cons (b_n 2) a_nil))) (e_bltB b_len (by rfl) B.len (by decide +kernel) (a_cons (b_n 3) a_nil))))))))
theorem sc_Stream___init__ : FnScope ["self", "base", "width", "head", "period", "many", "letter"] ["self", "base", "width", "head", "period"] (defScope s_Stream___init__) := ⟨rfl, rfl, rfl, by decide +kernel, rfl, by decide +kernel, by decide +kernel⟩
def q_Stream___init___1t : D → M (IB "Stream") Unit := (fun d => stV 6 (.v d))
def q_Stream___init___2b : M (IB "Stream") Fl := ifM (tNotM (tstB (eChain leD ltD (cst (.int 0)) (rdV 6) (rdV 5)))) (raiseM "BadStream" ["item", "why"] (lstC (cst (.int 0)) (lstC (cst (.str "an integer is no letter")) (mret [])))) (mret .nx)
def b_Stream___init__ : M (IB "Stream") Fl := seqM (ifM (tstB (eBinB eqD (argV (eAppB lenF (argC (argN 4) (mret [])))) (argV (cst (.int 0))))) (raiseM "BadStream" ["item", "why"] (lstC (cst (.int 0)) (lstC (cst (.str "the period is empty")) (mret [])))) (mret .nx)) (seqM (asgM 5 (callP 2 m_letter_count (argC (argV (rdV 1)) (argC (argV (rdV 2)) (mret []))))) (seqM (forM (itM (eApp lstD (strC (argN 3) (strC (argN 4) (mret []))))) q_Stream___init___1t q_Stream___init___2b) (seqM (asgT (rdV 1) (atS "Stream" ["base", "width", "head", "period"] 0 "base")) (seqM (asgT (rdV 2) (atS "Stream" ["base", "width", "head", "period"] 0 "width")) (asgT (callP 2 m_shortest_writing (argC (argV (eAppB tupleF (argC (argV (rdV 3)) (mret [])))) (argC (argV (eAppB tupleF (argC (argV (rdV 4)) (mret [])))) (mret [])))) (gtM 2 (gsC (atS "Stream" ["base", "width", "head", "period"] 0 "head") (gsC (atS "Stream" ["base", "width", "head", "period"] 0 "period") (fun ds => match ds with | [] => mret () | _ => mbad)))))))))
def m_Stream___init__ : DefM (IB "Stream") := runDef 7 b_Stream___init__
theorem d_Stream___init__ {P : Program} {w : World} {K : PySem.W.Frag} {mg : Str → Option Value} {base : Heap} {f : Addr} {fd : FuncData} (FD : FunD K "__init__" ("Stream" ++ ".__init__") (defArgs s_Stream___init__) (defBody s_Stream___init__) (defScope s_Stream___init__) [] [] f fd) (M : Mk K (He.ga K "Stream") f) (gl : mg "Stream" = some (.ref (He.ga K "Stream"))) (B : Bl K mg) (c_letter_count : Dx P w K mg base 1 "letter_count" s_letter_count ["base", "width"] m_letter_count) (c_shortest_writing : Dx P w K mg base 1 "shortest_writing" s_shortest_writing ["head", "period"] m_shortest_writing) (x_BadStream : Xc P w K mg base "BadStream" ["item", "why"]) : Dc P w K mg base 3 "Stream" s_Stream___init__ ["base", "width", "head", "period"] m_Stream___init__ := ⟨f, fd, M, FD, gl, fn_mk ["self", "base", "width", "head", "period", "many", "letter"] FD sc_Stream___init__ fun f cdv A outer s H E g hG hr =>
    (ss_cons (s_if (t_cmpB (c_eq hr.units) (b_e (e_bltB b_len (by rfl) B.len (by decide +kernel) (a_cons (b_n 4) a_nil))) (b_e e_int)) (ss_one (s_raise x_BadStream hr (L2N.takes_of rfl rfl rfl rfl) (l_cons e_int (l_cons e_str l_nil)))) ss_nil) (ss_cons (s_asg 5 sc_Stream___init__.nd (e_cP c_letter_count hr (L2N.takes_of rfl rfl rfl rfl) (a_cons (b_e (e_v 1)) (a_cons (b_e (e_v 2)) a_nil)))) (ss_cons (s_for (passes_of rfl) rfl (i_seq (e_lst (l_star (b_n 3) (l_star (b_n 4) l_nil)))) (g_name 6 sc_Stream___init__.nd) (ss_one (s_if (t_not (t_chain c_le c_lt e_int (e_v 6) (e_v 5))) (ss_one (s_raise x_BadStream hr (L2N.takes_of rfl rfl rfl rfl) (l_cons e_int (l_cons e_str l_nil)))) ss_nil))) (ss_cons (s_asgT (e_v 1) (g_at 0 B.TI hG)) (ss_cons (s_asgT (e_v 2) (g_at 0 B.TI hG)) (ss_one (s_asgT (e_cP c_shortest_writing hr (L2N.takes_of rfl rfl rfl rfl) (a_cons (b_e (e_bltT b_tuple (by rfl) B.tuple (by decide +kernel) (a_cons (b_e (e_v 3)) a_nil))) (a_cons (b_e (e_bltT b_tuple (by rfl) B.tuple (by decide +kernel) (a_cons (b_e (e_v 4)) a_nil))) a_nil))) (g_tup rfl (gs_cons (g_at 0 B.TI hG) (gs_cons (g_at 0 B.TI hG) gs_nil)))))))))), FD.bindsN (fun _ _ _ _ _ _ us hl => match us, hl with | [_, _, _, _, _], _ => rfl)⟩
theorem sc_Stream___eq__ : FnScope ["self", "other"] ["self", "other"] (defScope s_Stream___eq__) := ⟨rfl, rfl, rfl, by decide +kernel, rfl, by decide +kernel, by decide +kernel⟩
def b_Stream___eq__ : M Unit Fl := seqM (ifM (tNotM (truM (argV (eUn (isoO "Stream" csX) (rdV 1))))) (retM (cst (.bl false))) (mret .nx)) (seqM (ifM (tOrM (tstB (eBinB neD (argV (atM insX "base" (rdV 0))) (argV (atM insX "base" (rdV 1))))) (tstB (eBinB neD (argV (atM insX "width" (rdV 0))) (argV (atM insX "width" (rdV 1)))))) (retM (cst (.bl false))) (mret .nx)) (retM (eAndM (eBinB eqD (argV (atM insX "head" (rdV 0))) (argV (atM insX "head" (rdV 1)))) (eBinB eqD (argV (atM insX "period" (rdV 0))) (argV (atM insX "period" (rdV 1)))))))
def m_Stream___eq__ : DefM Unit := runDef 2 b_Stream___eq__
theorem d_Stream___eq__ {P : Program} {w : World} {K : PySem.W.Frag} {mg : Str → Option Value} {base : Heap} {f : Addr} {fd : FuncData} (FD : FunD K "__eq__" ("Stream" ++ "." ++ "__eq__") (defArgs s_Stream___eq__) (defBody s_Stream___eq__) (defScope s_Stream___eq__) [] [] f fd) (cl : Cls K (He.ga K "Stream")) (me : Meth K (He.ga K "Stream") "__eq__" f) (B : Bl K mg)  : Dm P w K mg base 1 "Stream" "__eq__" s_Stream___eq__ ["other"] m_Stream___eq__ := ⟨f, fd, FD, cl, me, fn_mk ["self", "other"] FD sc_Stream___eq__ fun f cdv A outer s H E g hG hr =>
    (ss_cons (s_if (t_not (t_tru (b_e (e_isO csX B.TC_Stream B.isinstance (e_v 1))))) (ss_one (s_ret e_bl)) ss_nil) (ss_cons (s_if (t_w (w_or (t_cmpB (c_ne hr.units) (b_e (e_at insX B.TI (e_v 0))) (b_e (e_at insX B.TI (e_v 1)))) (w_or1 (t_cmpB (c_ne hr.units) (b_e (e_at insX B.TI (e_v 0))) (b_e (e_at insX B.TI (e_v 1))))))) (ss_one (s_ret e_bl)) ss_nil) (ss_one (s_ret (e_and (e_cmpB (c_eq hr.units) (b_e (e_at insX B.TI (e_v 0))) (b_e (e_at insX B.TI (e_v 1)))) (e_one (e_cmpB (c_eq hr.units) (b_e (e_at insX B.TI (e_v 0))) (b_e (e_at insX B.TI (e_v 1)))))))))), FD.bindsN (fun _ _ _ _ _ _ us hl => match us, hl with | [_, _], _ => rfl)⟩
theorem sc_Stream_letter : FnScope ["self", "place"] ["self", "place"] (defScope s_Stream_letter) := ⟨rfl, rfl, rfl, by decide +kernel, rfl, by decide +kernel, by decide +kernel⟩
def b_Stream_letter : M Unit Fl := retM (callP 2 m_digit_at (argC (argV (eApp tupD (lstC (atM insX "head" (rdV 0)) (lstC (atM insX "period" (rdV 0)) (mret []))))) (argC (argV (eBin subD (rdV 1) (cst (.int 1)))) (mret []))))
def m_Stream_letter : DefM Unit := runDef 2 b_Stream_letter
theorem d_Stream_letter {P : Program} {w : World} {K : PySem.W.Frag} {mg : Str → Option Value} {base : Heap} {f : Addr} {fd : FuncData} (FD : FunD K "letter" ("Stream" ++ "." ++ "letter") (defArgs s_Stream_letter) (defBody s_Stream_letter) (defScope s_Stream_letter) [] [] f fd) (cl : Cls K (He.ga K "Stream")) (me : Meth K (He.ga K "Stream") "letter" f) (B : Bl K mg) (c_digit_at : Dx P w K mg base 1 "digit_at" s_digit_at ["digits", "at"] m_digit_at) : Dm P w K mg base 2 "Stream" "letter" s_Stream_letter ["place"] m_Stream_letter := ⟨f, fd, FD, cl, me, fn_mk ["self", "place"] FD sc_Stream_letter fun f cdv A outer s H E g hG hr =>
    (ss_one (s_ret (e_cP c_digit_at hr (L2N.takes_of rfl rfl rfl rfl) (a_cons (b_e (e_tup (l_cons (e_at insX B.TI (e_v 0)) (l_cons (e_at insX B.TI (e_v 0)) l_nil)))) (a_cons (b_e (e_sub (e_v 1) e_int)) a_nil))))), FD.bindsN (fun _ _ _ _ _ _ us hl => match us, hl with | [_, _], _ => rfl)⟩
theorem sc_Stream_upto : GScope ["self", "count", "place"] ["self", "count"] (defScope s_Stream_upto) := ⟨rfl, rfl, rfl, by decide +kernel, rfl, by decide +kernel, by decide +kernel⟩
def q_Stream_upto_1t : D → M Unit Unit := (fun d => stV 2 (.v d))
def q_Stream_upto_2b : GM Unit := (gSeq (gYld (noX (methM "Stream" "letter" 1 m_Stream_letter (rdV 0) (argC (argV (rdV 2)) (mret []))))) (fun ys => mret (.nx, ys)))
def b_Stream_upto : GM Unit := (gSeq (gFor (rngM2 (lstC (cst (.int 1)) (lstC (eBin addD (rdV 1) (cst (.int 1))) (mret [])))) q_Stream_upto_1t q_Stream_upto_2b) (fun ys => mret (.nx, ys)))
def m_Stream_upto : DefG := runGen 3 b_Stream_upto
theorem d_Stream_upto {P : Program} {w : World} {K : PySem.W.Frag} {mg : Str → Option Value} {base : Heap} {f : Addr} {fd : FuncData} (FD : FunD K "upto" ("Stream" ++ "." ++ "upto") (defArgs s_Stream_upto) (defBody s_Stream_upto) (defScope s_Stream_upto) [] [] f fd) (cl : Cls K (He.ga K "Stream")) (me : Meth K (He.ga K "Stream") "upto" f) (B : Bl K mg) (c_Stream_letter : Dm P w K mg base 2 "Stream" "letter" s_Stream_letter ["place"] m_Stream_letter) : Dgm P w K mg base 3 "Stream" "upto" s_Stream_upto ["count"] m_Stream_upto := ⟨f, fd, FD, cl, me, gm_mk ["self", "count", "place"] FD sc_Stream_upto fun f cdv A outer s H E g pn hr =>
    (ys_cons (y_for owns_gcx rfl (i_range2 B.range (l_cons e_int (l_cons (e_add (e_v 1) e_int) l_nil))) (g_name 2 sc_Stream_upto.nd) (ys_cons (y_yld (e_noX (e_meth c_Stream_letter hr takesW0 (e_v 0) (a_cons (b_e (e_v 2)) a_nil)))) ys_nil)) ys_nil), FD.bindsN (fun _ _ _ _ _ _ us hl => match us, hl with | [_, _], _ => rfl)⟩
theorem sc_Stream_rest : FnScope ["self", "count", "turn"] ["self", "count"] (defScope s_Stream_rest) := ⟨rfl, rfl, rfl, by decide +kernel, rfl, by decide +kernel, by decide +kernel⟩
def b_Stream_rest : M Unit Fl := seqM (ifM (tstB (eBinB leD (argN 1) (argV (eAppB lenF (argC (argV (atM insX "head" (rdV 0))) (mret [])))))) (retM (makeM "Stream" 4 m_Stream___init__ (argC (argV (atM insX "base" (rdV 0))) (argC (argV (atM insX "width" (rdV 0))) (argC (argV (eSl (argV (atM insX "head" (rdV 0))) (partM (rdV 1)) (mret none))) (argC (argV (atM insX "period" (rdV 0))) (mret []))))))) (mret .nx)) (seqM (asgM 2 (eBin modD (eBin subD (rdV 1) (eAppB lenF (argC (argV (atM insX "head" (rdV 0))) (mret [])))) (eAppB lenF (argC (argV (atM insX "period" (rdV 0))) (mret []))))) (retM (makeM "Stream" 4 m_Stream___init__ (argC (argV (atM insX "base" (rdV 0))) (argC (argV (atM insX "width" (rdV 0))) (argC (argV (eApp tupD (mret []))) (argC (argV (eBin addD (eSl (argV (atM insX "period" (rdV 0))) (partM (rdV 2)) (mret none)) (eSl (argV (atM insX "period" (rdV 0))) (mret none) (partM (rdV 2))))) (mret []))))))))
def m_Stream_rest : DefM Unit := runDef 3 b_Stream_rest
theorem d_Stream_rest {P : Program} {w : World} {K : PySem.W.Frag} {mg : Str → Option Value} {base : Heap} {f : Addr} {fd : FuncData} (FD : FunD K "rest" ("Stream" ++ "." ++ "rest") (defArgs s_Stream_rest) (defBody s_Stream_rest) (defScope s_Stream_rest) [] [] f fd) (cl : Cls K (He.ga K "Stream")) (me : Meth K (He.ga K "Stream") "rest" f) (B : Bl K mg) (c_Stream___init__ : Dc P w K mg base 3 "Stream" s_Stream___init__ ["base", "width", "head", "period"] m_Stream___init__) : Dm P w K mg base 5 "Stream" "rest" s_Stream_rest ["count"] m_Stream_rest := ⟨f, fd, FD, cl, me, fn_mk ["self", "count", "turn"] FD sc_Stream_rest fun f cdv A outer s H E g hG hr =>
    (ss_cons (s_if (t_cmpB c_le (b_n 1) (b_e (e_bltB b_len (by rfl) B.len (by decide +kernel) (a_cons (b_e (e_at insX B.TI (e_v 0))) a_nil)))) (ss_one (s_ret (e_make c_Stream___init__ hr (L2N.takes_of rfl rfl rfl rfl) (a_cons (b_e (e_at insX B.TI (e_v 0))) (a_cons (b_e (e_at insX B.TI (e_v 0))) (a_cons (b_e (e_sl (b_e (e_at insX B.TI (e_v 0))) (p_some (e_v 1)) p_none)) (a_cons (b_e (e_at insX B.TI (e_v 0))) a_nil))))))) ss_nil) (ss_cons (s_asg 2 sc_Stream_rest.nd (e_mod (e_sub (e_v 1) (e_bltB b_len (by rfl) B.len (by decide +kernel) (a_cons (b_e (e_at insX B.TI (e_v 0))) a_nil))) (e_bltB b_len (by rfl) B.len (by decide +kernel) (a_cons (b_e (e_at insX B.TI (e_v 0))) a_nil)))) (ss_one (s_ret (e_make c_Stream___init__ hr (L2N.takes_of rfl rfl rfl rfl) (a_cons (b_e (e_at insX B.TI (e_v 0))) (a_cons (b_e (e_at insX B.TI (e_v 0))) (a_cons (b_e (e_tup l_nil)) (a_cons (b_e (e_add (e_sl (b_e (e_at insX B.TI (e_v 0))) (p_some (e_v 2)) p_none) (e_sl (b_e (e_at insX B.TI (e_v 0))) p_none (p_some (e_v 2))))) a_nil))))))))), FD.bindsN (fun _ _ _ _ _ _ us hl => match us, hl with | [_, _], _ => rfl)⟩
theorem sc_Stream_prefixed : FnScope ["self", "word"] ["self", "word"] (defScope s_Stream_prefixed) := ⟨rfl, rfl, rfl, by decide +kernel, rfl, by decide +kernel, by decide +kernel⟩
def b_Stream_prefixed : M Unit Fl := retM (makeM "Stream" 4 m_Stream___init__ (argC (argV (atM insX "base" (rdV 0))) (argC (argV (atM insX "width" (rdV 0))) (argC (argV (eBin addD (eAppB tupleF (argC (argV (rdV 1)) (mret []))) (atM insX "head" (rdV 0)))) (argC (argV (atM insX "period" (rdV 0))) (mret []))))))
def m_Stream_prefixed : DefM Unit := runDef 2 b_Stream_prefixed
theorem d_Stream_prefixed {P : Program} {w : World} {K : PySem.W.Frag} {mg : Str → Option Value} {base : Heap} {f : Addr} {fd : FuncData} (FD : FunD K "prefixed" ("Stream" ++ "." ++ "prefixed") (defArgs s_Stream_prefixed) (defBody s_Stream_prefixed) (defScope s_Stream_prefixed) [] [] f fd) (cl : Cls K (He.ga K "Stream")) (me : Meth K (He.ga K "Stream") "prefixed" f) (B : Bl K mg) (c_Stream___init__ : Dc P w K mg base 3 "Stream" s_Stream___init__ ["base", "width", "head", "period"] m_Stream___init__) : Dm P w K mg base 5 "Stream" "prefixed" s_Stream_prefixed ["word"] m_Stream_prefixed := ⟨f, fd, FD, cl, me, fn_mk ["self", "word"] FD sc_Stream_prefixed fun f cdv A outer s H E g hG hr =>
    (ss_one (s_ret (e_make c_Stream___init__ hr (L2N.takes_of rfl rfl rfl rfl) (a_cons (b_e (e_at insX B.TI (e_v 0))) (a_cons (b_e (e_at insX B.TI (e_v 0))) (a_cons (b_e (e_add (e_bltT b_tuple (by rfl) B.tuple (by decide +kernel) (a_cons (b_e (e_v 1)) a_nil)) (e_at insX B.TI (e_v 0)))) (a_cons (b_e (e_at insX B.TI (e_v 0))) a_nil))))))), FD.bindsN (fun _ _ _ _ _ _ us hl => match us, hl with | [_, _], _ => rfl)⟩
theorem sc_Stream_text : FnScope ["self", "items", "item"] ["self"] (defScope s_Stream_text) := ⟨rfl, rfl, rfl, by decide +kernel, rfl, by decide +kernel, by decide +kernel⟩
def q_Stream_text_1t : D → M Unit Unit := (fun d => stV 2 (.v d))
def q_Stream_text_2e : M Unit RV := eAppB strSF (argC (argN 2) (mret []))
def b_Stream_text : M Unit Fl := seqM (asgM 1 (eApp lstD (strC (argV (atM insX "head" (rdV 0))) (lstC (cst (.str "(")) (strC (argV (atM insX "period" (rdV 0))) (lstC (cst (.str ")")) (mret []))))))) (retM (sm1M joinF (cst (.str " ")) (lcM [2] (itM (rdV 1)) q_Stream_text_1t (mret true) q_Stream_text_2e)))
def m_Stream_text : DefM Unit := runDef 3 b_Stream_text
theorem d_Stream_text {P : Program} {w : World} {K : PySem.W.Frag} {mg : Str → Option Value} {base : Heap} {f : Addr} {fd : FuncData} (FD : FunD K "text" ("Stream" ++ "." ++ "text") (defArgs s_Stream_text) (defBody s_Stream_text) (defScope s_Stream_text) [] [] f fd) (cl : Cls K (He.ga K "Stream")) (me : Meth K (He.ga K "Stream") "text" f) (B : Bl K mg)  : Dm P w K mg base 1 "Stream" "text" s_Stream_text [] m_Stream_text := ⟨f, fd, FD, cl, me, fn_mk ["self", "items", "item"] FD sc_Stream_text fun f cdv A outer s H E g hG hr =>
    (ss_cons (s_asg 1 sc_Stream_text.nd (e_lst (l_star (b_e (e_at insX B.TI (e_v 0))) (l_cons e_str (l_star (b_e (e_at insX B.TI (e_v 0))) (l_cons e_str l_nil)))))) (ss_one (s_ret (e_sm1 sm_join e_str (e_lc [("item", 2)] sc_Stream_text.nd (i_seq (e_v 1)) (fun F s H C cl fp => (g_name 2 sc_Stream_text.nd)) bt_nil (fun F s H C cl fp => (e_bltT b_strS (by rfl) B.str (by decide +kernel) (a_cons (b_n 2) a_nil))) (ok := blkOk_by (N := ["self", "items", "item"]) (sc := defScope s_Stream_text) (by decide +kernel))))))), FD.bindsN (fun _ _ _ _ _ _ us hl => match us, hl with | [_], _ => rfl)⟩
theorem sc_Stream___repr__ : FnScope ["self"] ["self"] (defScope s_Stream___repr__) := ⟨rfl, rfl, rfl, by decide +kernel, rfl, by decide +kernel, by decide +kernel⟩
def b_Stream___repr__ : M Unit Fl := retM (fsM [cst (.str "Stream("), eUn fmtD (methM "Stream" "text" 0 m_Stream_text (rdV 0) (mret [])), cst (.str ")")])
def m_Stream___repr__ : DefM Unit := runDef 1 b_Stream___repr__
theorem d_Stream___repr__ {P : Program} {w : World} {K : PySem.W.Frag} {mg : Str → Option Value} {base : Heap} {f : Addr} {fd : FuncData} (FD : FunD K "__repr__" ("Stream" ++ "." ++ "__repr__") (defArgs s_Stream___repr__) (defBody s_Stream___repr__) (defScope s_Stream___repr__) [] [] f fd) (cl : Cls K (He.ga K "Stream")) (me : Meth K (He.ga K "Stream") "__repr__" f) (B : Bl K mg) (c_Stream_text : Dm P w K mg base 1 "Stream" "text" s_Stream_text [] m_Stream_text) : Dm P w K mg base 2 "Stream" "__repr__" s_Stream___repr__ [] m_Stream___repr__ := ⟨f, fd, FD, cl, me, fn_mk ["self"] FD sc_Stream___repr__ fun f cdv A outer s H E g hG hr =>
    (ss_one (s_ret (e_fs (PJM.cons e_str (PJM.cons (e_fmt (e_meth0 c_Stream_text hr (L2N.takes_of rfl rfl rfl rfl) (e_v 0))) (PJM.cons e_str PJM.nil)))))), FD.bindsN (fun _ _ _ _ _ _ us hl => match us, hl with | [_], _ => rfl)⟩
theorem sc__law_draw : FnScope ["box", "size", "bit", "digit"] ["box", "size"] (defScope s__law_draw) := ⟨rfl, rfl, rfl, by decide +kernel, rfl, by decide +kernel, by decide +kernel⟩
def b__law_draw : M Bx Fl := seqM (bxSt 0 4 (eBin addD (bxRd 0 4) (cst (.int 1)))) (seqM (ifM (tAndM (tstB (eBinB eqD (argV (bxRd 0 2)) (argV (cst (.int 0))))) (tstB (eBinB ltD (argV (bxRd 0 1)) (argV (eAppB lenF (argC (argV (bxRd 0 0)) (mret []))))))) (seqM (asgM 2 (eIx (argV (bxRd 0 0)) (bxRd 0 1))) (seqM (bxSt 0 1 (eBin addD (bxRd 0 1) (cst (.int 1)))) (ifM (tstB (eBinB geD (argN 2) (argV (eBin powD (cst (.int 10)) (cst (.int 18)))))) (seqM (bxSt 0 2 (rdV 2)) (bxSt 0 5 (cst (.int 60)))) (bxSt 0 3 (eBin modD (eAppB intF (argC (argV (eBin addD (eBin addD (eBin mulD (bxRd 0 3) (cst (.int 75403))) (eBin mulD (eBin modD (eAppB intF (argC (argN 2) (mret []))) (cst (.int 2147483563))) (cst (.int 40009)))) (cst (.int 307)))) (mret []))) (cst (.int 2147483549))))))) (mret .nx)) (seqM (ifM (tstB (eBinB gtD (argV (bxRd 0 2)) (argV (cst (.int 0))))) (seqM (asgM 3 (eBin modD (eAppB intF (argC (argV (bxRd 0 2)) (mret []))) (rdV 1))) (seqM (bxSt 0 5 (eBin subD (bxRd 0 5) (cst (.int 1)))) (seqM (bxSt 0 2 (eIfM (tstB (eBinB gtD (argV (bxRd 0 5)) (argV (cst (.int 0))))) (eBin fdivD (bxRd 0 2) (rdV 1)) (cst (.int 0)))) (retN 3)))) (mret .nx)) (seqM (bxSt 0 3 (eBin modD (eAppB intF (argC (argV (eBin addD (eBin addD (eBin powD (bxRd 0 3) (cst (.int 3))) (eBin mulD (bxRd 0 4) (cst (.int 1000003)))) (cst (.int 70001)))) (mret []))) (cst (.int 2147483549)))) (retM (eBin modD (eAppB intF (argC (argV (eBin addD (eBin fdivD (bxRd 0 3) (cst (.int 89))) (eBin mulD (eBin modD (eAppB intF (argC (argV (bxRd 0 3)) (mret []))) (cst (.int 6869))) (cst (.int 73))))) (mret []))) (rdV 1))))))
def m__law_draw : DefM Bx := runDef 4 b__law_draw
theorem d__law_draw {P : Program} {w : World} {K : PySem.W.Frag} {mg : Str → Option Value} {base : Heap} (FD : Fd K mg "_law_draw" s__law_draw) (B : Bl K mg)  : Dx P w K mg base 1 "_law_draw" s__law_draw ["box", "size"] m__law_draw :=
  dx_mk ["box", "size", "bit", "digit"] FD sc__law_draw (fun _ _ _ _ _ _ us hl => match us, hl with | [_, _], _ => rfl) fun f cdv A outer s H E g hG hr =>
    (ss_cons (s_bx 0 4 hG (e_add (e_bx 0 4 hG) e_int)) (ss_cons (s_if (t_w (w_and (t_cmpB (c_eq hr.units) (b_e (e_bx 0 2 hG)) (b_e e_int)) (w_and1 (t_cmpB c_lt (b_e (e_bx 0 1 hG)) (b_e (e_bltB b_len (by rfl) B.len (by decide +kernel) (a_cons (b_e (e_bx 0 0 hG)) a_nil))))))) (ss_cons (s_asg 2 sc__law_draw.nd (e_ix (b_e (e_bx 0 0 hG)) (e_bx 0 1 hG))) (ss_cons (s_bx 0 1 hG (e_add (e_bx 0 1 hG) e_int)) (ss_one (s_if (t_cmpB c_ge (b_n 2) (b_e (e_pow e_int e_int))) (ss_cons (s_bx 0 2 hG (e_v 2)) (ss_one (s_bx 0 5 hG e_int))) (ss_one (s_bx 0 3 hG (e_mod (e_bltT b_int (by rfl) B.int (by decide +kernel) (a_cons (b_e (e_add (e_add (e_mul (e_bx 0 3 hG) e_int) (e_mul (e_mod (e_bltT b_int (by rfl) B.int (by decide +kernel) (a_cons (b_n 2) a_nil)) e_int) e_int)) e_int)) a_nil)) e_int))))))) ss_nil) (ss_cons (s_if (t_cmpB c_gt (b_e (e_bx 0 2 hG)) (b_e e_int)) (ss_cons (s_asg 3 sc__law_draw.nd (e_mod (e_bltT b_int (by rfl) B.int (by decide +kernel) (a_cons (b_e (e_bx 0 2 hG)) a_nil)) (e_v 1))) (ss_cons (s_bx 0 5 hG (e_sub (e_bx 0 5 hG) e_int)) (ss_cons (s_bx 0 2 hG (e_if (t_cmpB c_gt (b_e (e_bx 0 5 hG)) (b_e e_int)) (e_fdiv (e_bx 0 2 hG) (e_v 1)) e_int)) (ss_one (s_retV 3))))) ss_nil) (ss_cons (s_bx 0 3 hG (e_mod (e_bltT b_int (by rfl) B.int (by decide +kernel) (a_cons (b_e (e_add (e_add (e_pow (e_bx 0 3 hG) e_int) (e_mul (e_bx 0 4 hG) e_int)) e_int)) a_nil)) e_int)) (ss_one (s_ret (e_mod (e_bltT b_int (by rfl) B.int (by decide +kernel) (a_cons (b_e (e_add (e_fdiv (e_bx 0 3 hG) e_int) (e_mul (e_mod (e_bltT b_int (by rfl) B.int (by decide +kernel) (a_cons (b_e (e_bx 0 3 hG)) a_nil)) e_int) e_int))) a_nil)) (e_v 1))))))))
theorem sc__law_of : FnScope ["box", "menu"] ["box", "menu"] (defScope s__law_of) := ⟨rfl, rfl, rfl, by decide +kernel, rfl, by decide +kernel, by decide +kernel⟩
def b__law_of : M Bx Fl := retM (eIx (argN 1) (callB 2 m__law_draw (argC (argV (rdV 0)) (argC (argV (eAppB lenF (argC (argN 1) (mret [])))) (mret [])))))
def m__law_of : DefM Bx := runDef 2 b__law_of
theorem d__law_of {P : Program} {w : World} {K : PySem.W.Frag} {mg : Str → Option Value} {base : Heap} (FD : Fd K mg "_law_of" s__law_of) (B : Bl K mg) (c__law_draw : Dx P w K mg base 1 "_law_draw" s__law_draw ["box", "size"] m__law_draw) : Dx P w K mg base 2 "_law_of" s__law_of ["box", "menu"] m__law_of :=
  dx_mk ["box", "menu"] FD sc__law_of (fun _ _ _ _ _ _ us hl => match us, hl with | [_, _], _ => rfl) fun f cdv A outer s H E g hG hr =>
    (ss_one (s_ret (e_ix (b_n 1) (e_cB hG c__law_draw hr (L2N.takes_of rfl rfl rfl rfl) (a_cons (b_e (e_v 0)) (a_cons (b_e (e_bltB b_len (by rfl) B.len (by decide +kernel) (a_cons (b_n 1) a_nil))) a_nil))))))
theorem sc__law_like : FnScope ["told", "due", "key", "k"] ["told", "due"] (defScope s__law_like) := ⟨rfl, rfl, rfl, by decide +kernel, rfl, by decide +kernel, by decide +kernel⟩
def q__law_like_1t (self : DefM Unit) : D → M Unit Unit := (fun d => stV 3 (.v d))
def q__law_like_2b (self : DefM Unit) : M Unit Fl := ifM (tNotM (truM (argV (callP 2 self (argC (argV (eIx (argN 0) (rdV 3))) (argC (argV (eIx (argN 1) (rdV 3))) (mret []))))))) (retM (cst (.bl false))) (mret .nx)
def b__law_like (self : DefM Unit) : M Unit Fl := seqM (ifM (truM (argV (isiM "bool" (argN 1)))) (retM (eAndM (isiM "bool" (argN 0)) (eBinB eqD (argN 0) (argN 1)))) (mret .nx)) (seqM (ifM (truM (argV (isiM "int" (argN 1)))) (retM (eAndM (isiM "int" (argN 0)) (eAndM (eNotM (isiM "bool" (argN 0))) (eBinB eqD (argN 0) (argN 1))))) (mret .nx)) (seqM (ifM (truM (argV (isiM "str" (argN 1)))) (retM (eAndM (isiM "str" (argN 0)) (eBinB eqD (argN 0) (argN 1)))) (mret .nx)) (seqM (ifM (truM (argV (isiM "dict" (argN 1)))) mbad (mret .nx)) (seqM (ifM (tOrM (truM (argV (isiM "list" (argN 1)))) (truM (argV (isiM "tuple" (argN 1))))) (seqM (ifM (tOrM (tstB (eBinB neD (argV (isiM "list" (argN 0))) (argV (isiM "list" (argN 1))))) (tstB (eBinB neD (argV (isiM "tuple" (argN 0))) (argV (isiM "tuple" (argN 1)))))) (retM (cst (.bl false))) (mret .nx)) (seqM (ifM (tstB (eBinB neD (argV (eAppB lenF (argC (argN 0) (mret [])))) (argV (eAppB lenF (argC (argN 1) (mret [])))))) (retM (cst (.bl false))) (mret .nx)) (seqM (forM (rngM1 (lstC (eAppB lenF (argC (argN 1) (mret []))) (mret []))) (q__law_like_1t self) (q__law_like_2b self)) (retM (cst (.bl true)))))) (mret .nx)) (retM (eAndM (eUn isND (rdV 1)) (eUn isND (rdV 0))))))))
def m__law_like : Nat → DefM Unit
  | 0 => bad
  | n + 1 => runDef 4 (b__law_like (m__law_like n))
theorem e__law_like {P : Program} {w : World} {K : PySem.W.Frag} {mg : Str → Option Value} {base : Heap} (FD : Fd K mg "_law_like" s__law_like) (B : Bl K mg)  {k : Nat} {self : DefM Unit} (hL : 0 ≤ k) (c__law_like : Dx P w K mg base k "_law_like" s__law_like ["told", "due"] self) : Dx P w K mg base (k + 1) "_law_like" s__law_like ["told", "due"] (runDef 4 (b__law_like self)) :=
  dx_mk ["told", "due", "key", "k"] FD sc__law_like (fun _ _ _ _ _ _ us hl => match us, hl with | [_, _], _ => rfl) fun f cdv A outer s H E g hG hr =>
    (ss_cons (s_if (t_tru (b_e (e_isi "bool" B.isinstance B.bool (b_n 1)))) (ss_one (s_ret (e_and (e_isi "bool" B.isinstance B.bool (b_n 0)) (e_one (e_cmpB (c_eq hr.units) (b_n 0) (b_n 1)))))) ss_nil) (ss_cons (s_if (t_tru (b_e (e_isi "int" B.isinstance B.int (b_n 1)))) (ss_one (s_ret (e_and (e_isi "int" B.isinstance B.int (b_n 0)) (e_and (e_not (e_isi "bool" B.isinstance B.bool (b_n 0))) (e_one (e_cmpB (c_eq hr.units) (b_n 0) (b_n 1))))))) ss_nil) (ss_cons (s_if (t_tru (b_e (e_isi "str" B.isinstance B.str (b_n 1)))) (ss_one (s_ret (e_and (e_isi "str" B.isinstance B.str (b_n 0)) (e_one (e_cmpB (c_eq hr.units) (b_n 0) (b_n 1)))))) ss_nil) (ss_cons (s_if (t_tru (b_e (e_isi "dict" B.isinstance B.dict (b_n 1)))) ss_never ss_nil) (ss_cons (s_if (t_w (w_or (t_tru (b_e (e_isi "list" B.isinstance B.list (b_n 1)))) (w_or1 (t_tru (b_e (e_isi "tuple" B.isinstance B.tuple (b_n 1))))))) (ss_cons (s_if (t_w (w_or (t_cmpB (c_ne hr.units) (b_e (e_isi "list" B.isinstance B.list (b_n 0))) (b_e (e_isi "list" B.isinstance B.list (b_n 1)))) (w_or1 (t_cmpB (c_ne hr.units) (b_e (e_isi "tuple" B.isinstance B.tuple (b_n 0))) (b_e (e_isi "tuple" B.isinstance B.tuple (b_n 1))))))) (ss_one (s_ret e_bl)) ss_nil) (ss_cons (s_if (t_cmpB (c_ne hr.units) (b_e (e_bltB b_len (by rfl) B.len (by decide +kernel) (a_cons (b_n 0) a_nil))) (b_e (e_bltB b_len (by rfl) B.len (by decide +kernel) (a_cons (b_n 1) a_nil)))) (ss_one (s_ret e_bl)) ss_nil) (ss_cons (s_for (passes_of rfl) rfl (i_range1 B.range (l_cons (e_bltB b_len (by rfl) B.len (by decide +kernel) (a_cons (b_n 1) a_nil)) l_nil)) (g_name 3 sc__law_like.nd) (ss_one (s_if (t_not (t_tru (b_e (e_cP c__law_like hr (L2N.takes_of rfl rfl rfl rfl) (a_cons (b_e (e_ix (b_n 0) (e_v 3))) (a_cons (b_e (e_ix (b_n 1) (e_v 3))) a_nil)) (hk := by omega))))) (ss_one (s_ret e_bl)) ss_nil))) (ss_one (s_ret e_bl))))) ss_nil) (ss_one (s_ret (e_and (e_isN (e_v 1)) (e_one (e_isN (e_v 0)))))))))))
theorem d__law_like {P : Program} {w : World} {K : PySem.W.Frag} {mg : Str → Option Value} {base : Heap} (FD : Fd K mg "_law_like" s__law_like) (B : Bl K mg)  : ∀ n : Nat, Dx P w K mg base (0 + n) "_law_like" s__law_like ["told", "due"] (m__law_like n)
  | 0 => dx_bad 0 FD (fun _ _ _ _ _ _ us hl => match us, hl with | [_, _], _ => rfl)
  | n + 1 => e__law_like FD B  (Nat.le_add_right _ _) (d__law_like FD B  n)
theorem sc__law_classes : FnScope ["error", "marks", "tag", "yes"] ["error"] (defScope s__law_classes) := ⟨rfl, rfl, rfl, by decide +kernel, rfl, by decide +kernel, by decide +kernel⟩
theorem sc__law_why : FnScope ["error", "at"] ["error", "at"] (defScope s__law_why) := ⟨rfl, rfl, rfl, by decide +kernel, rfl, by decide +kernel, by decide +kernel⟩
theorem sc__law_caught : FnScope ["error", "tag", "fields", "above"] ["error", "tag", "fields"] (defScope s__law_caught) := ⟨rfl, rfl, rfl, by decide +kernel, rfl, by decide +kernel, by decide +kernel⟩
theorem sc__law_tried : FnScope ["call", "e"] ["call"] (defScope s__law_tried) := ⟨rfl, rfl, rfl, by decide +kernel, rfl, by decide +kernel, by decide +kernel⟩
theorem sc__law_refused : FnScope ["call", "due"] ["call", "due"] (defScope s__law_refused) := ⟨rfl, rfl, rfl, by decide +kernel, rfl, by decide +kernel, by decide +kernel⟩
def m__law_classes : DefM Unit := clsM rowsOf xsX
theorem d__law_classes {P : Program} {w : World} {K : PySem.W.Frag} {mg : Str → Option Value} {base : Heap} (FD : Fd K mg "_law_classes" s__law_classes) (B : Bl K mg) (MF : MarksF K mg xsn) : Dh P w K mg base 1 "_law_classes" s__law_classes ["error"] m__law_classes :=
  dh_classes FD sc__law_classes rowsOf_len (fun _ _ _ _ _ _ us hl => match us, hl with | [_], _ => rfl) (fun c hm f a cdv A outer s H E x1 oe p hc => pss_cons (ps_set sc__law_classes.nd (i := 1) rfl (Or.inl rfl) (pe_lst (rows_cons (is_own (MF.exc c hm) B.isinstance (MF.own "BadWord" (by decide)) (MF.kitO c hm "BadWord" (by decide))) (rows_cons (is_own (MF.exc c hm) B.isinstance (MF.own "BadStream" (by decide)) (MF.kitO c hm "BadStream" (by decide))) (rows_cons (is_own (MF.exc c hm) B.isinstance (MF.own "BadPoint" (by decide)) (MF.kitO c hm "BadPoint" (by decide))) (rows_cons (is_own (MF.exc c hm) B.isinstance (MF.own "BadMachine" (by decide)) (MF.kitO c hm "BadMachine" (by decide))) (rows_cons (is_own (MF.exc c hm) B.isinstance (MF.own "BadForm" (by decide)) (MF.kitO c hm "BadForm" (by decide))) (rows_cons (is_own (MF.exc c hm) B.isinstance (MF.own "BadBook" (by decide)) (MF.kitO c hm "BadBook" (by decide))) (rows_cons (is_own (MF.exc c hm) B.isinstance (MF.own "BadPolygon" (by decide)) (MF.kitO c hm "BadPolygon" (by decide))) (rows_cons (is_own (MF.exc c hm) B.isinstance (MF.own "BadTarget" (by decide)) (MF.kitO c hm "BadTarget" (by decide))) (rows_cons (is_own (MF.exc c hm) B.isinstance (MF.own "BadScript" (by decide)) (MF.kitO c hm "BadScript" (by decide))) (rows_cons (is_own (MF.exc c hm) B.isinstance (MF.own "NotOne" (by decide)) (MF.kitO c hm "NotOne" (by decide))) (rows_cons (is_own (MF.exc c hm) B.isinstance (MF.own "Torn" (by decide)) (MF.kitO c hm "Torn" (by decide))) (rows_cons (is_own (MF.exc c hm) B.isinstance (MF.own "Unlike" (by decide)) (MF.kitO c hm "Unlike" (by decide))) (rows_cons (is_own (MF.exc c hm) B.isinstance (MF.own "Outside" (by decide)) (MF.kitO c hm "Outside" (by decide))) (rows_cons (is_own (MF.exc c hm) B.isinstance (MF.own "Gap" (by decide)) (MF.kitO c hm "Gap" (by decide))) (rows_cons (is_own (MF.exc c hm) B.isinstance (MF.own "NoValue" (by decide)) (MF.kitO c hm "NoValue" (by decide))) (rows_cons (is_own (MF.exc c hm) B.isinstance (MF.own "TooMany" (by decide)) (MF.kitO c hm "TooMany" (by decide))) (rows_cons (is_own (MF.exc c hm) B.isinstance (MF.own "NoSuch" (by decide)) (MF.kitO c hm "NoSuch" (by decide))) (rows_cons (is_own (MF.exc c hm) B.isinstance (MF.own "Ended" (by decide)) (MF.kitO c hm "Ended" (by decide))) (rows_cons (is_own (MF.exc c hm) B.isinstance (MF.own "BendlessError" (by decide)) (MF.kitO c hm "BendlessError" (by decide))) (rows_cons (is_blt (MF.exc c hm) B.isinstance B.ValueError (MF.kitB c hm "ValueError" (by decide))) (rows_cons (is_blt (MF.exc c hm) B.isinstance B.LookupError (MF.kitB c hm "LookupError" (by decide))) (rows_cons (is_blt (MF.exc c hm) B.isinstance B.RuntimeError (MF.kitB c hm "RuntimeError" (by decide))) (rows_cons (is_blt (MF.exc c hm) B.isinstance B.KeyError (MF.kitB c hm "KeyError" (by decide))) (rows_cons (is_blt (MF.exc c hm) B.isinstance B.IndexError (MF.kitB c hm "IndexError" (by decide))) rows_nil)))))))))))))))))))))))))) (pss_one (ps_ret (pe_lcH hc sc__law_classes.nd (pe_var (i := 1) rfl (Or.inl rfl)) (blkOk_by (N := ["error", "marks", "tag", "yes"]) (sc := defScope s__law_classes) (own := [("tag", 2), ("yes", 3)]) (by decide +kernel)) (fun F s H C cl hc => pg_tupH hc (pgs_cons (pg_name (i := 2) sc__law_classes.nd rfl (Or.inl rfl)) (pgs_cons (pg_name (i := 3) sc__law_classes.nd rfl (Or.inl rfl)) pgs_nil))) (fun F s H C cl => pts_one (pt_truth (pe_var (i := 3) rfl (Or.inl rfl)) (by intro _; rfl))) (fun F s H C cl => pe_var (i := 2) rfl (Or.inl rfl))))))
def b__law_why : M Unit Fl := retM (eIfM (tOrM (tstB (eBinB eqD (argN 1) (argV (cst (.int 0))))) (tAndM (truM (argV (isiM "str" (argV (xfM xsX 0 "why"))))) (tstB (eBinB neD (argV (xfM xsX 0 "why")) (argV (cst (.str ""))))))) (eApp tupD (lstC (rdV 1) (mret []))) (eApp tupD (lstC (cst (.str "no why")) (lstC (rdV 1) (mret [])))))
def m__law_why : DefM Unit := runDef 2 b__law_why
theorem d__law_why {P : Program} {w : World} {K : PySem.W.Frag} {mg : Str → Option Value} {base : Heap} (FD : Fd K mg "_law_why" s__law_why) (B : Bl K mg)  (T : XF K xsX) : Dh P w K mg base 1 "_law_why" s__law_why ["error", "at"] m__law_why :=
  dh_mk ["error", "at"] FD sc__law_why (fun _ _ _ _ _ _ us hl => match us, hl with | [_, _], _ => rfl) fun f cdv A outer s H E g x1 oe p hr hc =>
    (ss_one (s_ret (e_if (t_w (w_or (t_cmpB (c_eq hr.units) (b_n 1) (b_e e_int)) (w_or1 (t_w (w_and (t_tru (b_e (e_isi "str" B.isinstance B.str (b_e (e_xf xsX 0 T))))) (w_and1 (t_cmpB (c_ne hr.units) (b_e (e_xf xsX 0 T)) (b_e e_str)))))))) (e_tup (l_cons (e_v 1) l_nil)) (e_tup (l_cons e_str (l_cons (e_v 1) l_nil))))))
def b__law_caught : M Unit Fl := seqM (asgM 3 (eIfM (tstB (eBinB eqD (argN 1) (argV (cst (.str "NoSuch"))))) (eApp lstD (lstC (cst (.str "LookupError")) (mret []))) (eIfM (tstB (eBinB eqD (argN 1) (argV (cst (.str "Ended"))))) (eApp lstD (lstC (cst (.str "RuntimeError")) (mret []))) (eApp lstD (lstC (cst (.str "BendlessError")) (lstC (cst (.str "ValueError")) (mret []))))))) (retM (eIfM (tstB (eBinB eqD (argV (callP 1 m__law_classes (argC (argV (rdV 0)) (mret [])))) (argV (eBin addD (eApp lstD (lstC (rdV 1) (mret []))) (rdV 3))))) (eBin addD (eApp tupD (lstC (rdV 1) (mret []))) (rdV 2)) (eApp tupD (lstC (cst (.str "of other classes")) (lstC (rdV 1) (mret []))))))
def m__law_caught : DefM Unit := runDef 4 b__law_caught
theorem d__law_caught {P : Program} {w : World} {K : PySem.W.Frag} {mg : Str → Option Value} {base : Heap} (FD : Fd K mg "_law_caught" s__law_caught) (B : Bl K mg) (c__law_classes : Dh P w K mg base 1 "_law_classes" s__law_classes ["error"] m__law_classes) (T : XF K xsX) : Dh P w K mg base 2 "_law_caught" s__law_caught ["error", "tag", "fields"] m__law_caught :=
  dh_mk ["error", "tag", "fields", "above"] FD sc__law_caught (fun _ _ _ _ _ _ us hl => match us, hl with | [_, _, _], _ => rfl) fun f cdv A outer s H E g x1 oe p hr hc =>
    (ss_cons (s_asg 3 sc__law_caught.nd (e_if (t_cmpB (c_eq hr.units) (b_n 1) (b_e e_str)) (e_lst (l_cons e_str l_nil)) (e_if (t_cmpB (c_eq hr.units) (b_n 1) (b_e e_str)) (e_lst (l_cons e_str l_nil)) (e_lst (l_cons e_str (l_cons e_str l_nil)))))) (ss_one (s_ret (e_if (t_cmpB (c_eq hr.units) (b_e (e_cPH c__law_classes hr hc (L2N.takes_of rfl rfl rfl rfl) (a_cons (b_e (e_v 0)) a_nil))) (b_e (e_add (e_lst (l_cons (e_v 1) l_nil)) (e_v 3)))) (e_add (e_tup (l_cons (e_v 1) l_nil)) (e_v 2)) (e_tup (l_cons e_str (l_cons (e_v 1) l_nil)))))))
def su_0 : M Unit Fl := retM (callP 3 m__law_caught (argC (argV (rdV 1)) (argC (argV (cst (.str "BadWord"))) (argC (argV (callP 2 m__law_why (argC (argV (rdV 1)) (argC (argV (xfM xsX 1 "item")) (mret []))))) (mret [])))))
def su_1 : M Unit Fl := retM (callP 3 m__law_caught (argC (argV (rdV 1)) (argC (argV (cst (.str "BadStream"))) (argC (argV (callP 2 m__law_why (argC (argV (rdV 1)) (argC (argV (xfM xsX 1 "item")) (mret []))))) (mret [])))))
def su_2 : M Unit Fl := retM (callP 3 m__law_caught (argC (argV (rdV 1)) (argC (argV (cst (.str "BadTarget"))) (argC (argV (callP 2 m__law_why (argC (argV (rdV 1)) (argC (argV (xfM xsX 1 "item")) (mret []))))) (mret [])))))
def su_3 : M Unit Fl := retM (callP 3 m__law_caught (argC (argV (rdV 1)) (argC (argV (cst (.str "BadMachine"))) (argC (argV (callP 2 m__law_why (argC (argV (rdV 1)) (argC (argV (xfM xsX 1 "line")) (mret []))))) (mret [])))))
def su_4 : M Unit Fl := retM (callP 3 m__law_caught (argC (argV (rdV 1)) (argC (argV (cst (.str "BadForm"))) (argC (argV (callP 2 m__law_why (argC (argV (rdV 1)) (argC (argV (xfM xsX 1 "line")) (mret []))))) (mret [])))))
def su_5 : M Unit Fl := retM (callP 3 m__law_caught (argC (argV (rdV 1)) (argC (argV (cst (.str "BadBook"))) (argC (argV (callP 2 m__law_why (argC (argV (rdV 1)) (argC (argV (xfM xsX 1 "line")) (mret []))))) (mret [])))))
def su_6 : M Unit Fl := retM (callP 3 m__law_caught (argC (argV (rdV 1)) (argC (argV (cst (.str "BadPolygon"))) (argC (argV (callP 2 m__law_why (argC (argV (rdV 1)) (argC (argV (xfM xsX 1 "line")) (mret []))))) (mret [])))))
def su_7 : M Unit Fl := retM (callP 3 m__law_caught (argC (argV (rdV 1)) (argC (argV (cst (.str "BadPoint"))) (argC (argV (eApp tupD (lstC (xfM xsX 1 "number") (mret [])))) (mret [])))))
def su_8 : M Unit Fl := retM (callP 3 m__law_caught (argC (argV (rdV 1)) (argC (argV (cst (.str "NotOne"))) (argC (argV (eApp tupD (lstC (xfM xsX 1 "condition") (lstC (xfM xsX 1 "where") (mret []))))) (mret [])))))
def su_9 : M Unit Fl := retM (callP 3 m__law_caught (argC (argV (rdV 1)) (argC (argV (cst (.str "Torn"))) (argC (argV (eApp tupD (lstC (xfM xsX 1 "left") (lstC (xfM xsX 1 "right") (mret []))))) (mret [])))))
def su_10 : M Unit Fl := retM (callP 3 m__law_caught (argC (argV (rdV 1)) (argC (argV (cst (.str "Unlike"))) (argC (argV (eApp tupD (lstC (xfM xsX 1 "what") (mret [])))) (mret [])))))
def su_11 : M Unit Fl := retM (callP 3 m__law_caught (argC (argV (rdV 1)) (argC (argV (cst (.str "TooMany"))) (argC (argV (eApp tupD (lstC (xfM xsX 1 "what") (lstC (xfM xsX 1 "limit") (mret []))))) (mret [])))))
def su_12 : M Unit Fl := retM (callP 3 m__law_caught (argC (argV (rdV 1)) (argC (argV (cst (.str "NoSuch"))) (argC (argV (eApp tupD (lstC (xfM xsX 1 "name") (mret [])))) (mret [])))))
def su_13 : M Unit Fl := retM (callP 3 m__law_caught (argC (argV (rdV 1)) (argC (argV (cst (.str "Ended"))) (argC (argV (eApp tupD (lstC (xfM xsX 1 "what") (mret [])))) (mret [])))))
def smX : List (Str × M Unit Fl) := [("BadWord", su_0), ("BadStream", su_1), ("BadTarget", su_2), ("BadMachine", su_3), ("BadForm", su_4), ("BadBook", su_5), ("BadPolygon", su_6), ("BadPoint", su_7), ("NotOne", su_8), ("Torn", su_9), ("Unlike", su_10), ("TooMany", su_11), ("NoSuch", su_12), ("Ended", su_13)]
theorem d__law_tried {P : Program} {w : World} {K : PySem.W.Frag} {mg : Str → Option Value} {base : Heap} (FD : Fd K mg "_law_tried" s__law_tried) (B : Bl K mg) (c__law_caught : Dh P w K mg base 2 "_law_caught" s__law_caught ["error", "tag", "fields"] m__law_caught) (c__law_why : Dh P w K mg base 1 "_law_why" s__law_why ["error", "at"] m__law_why) (T : XF K xsX) (XS : XM K mg xsn (smX.map (·.1))) : Dt P w K mg base 13 "_law_tried" s__law_tried xsn smX :=
  dt_mk FD sc__law_tried XS (fun _ _ _ _ _ _ us hl => match us, hl with | [_], _ => rfl) (fun f cdv A outer s H E fv tl hr act => pss_one (ps_tryA rfl rfl rfl sc__law_tried.nd rfl rfl takesW0 (fun W pn xe tk _ => pss_one (ps_ret (pe_tup (pa_cons pe_str (pa_cons (act W pn xe _ _ tk) pa_nil))))) (HdA.cons ⟨by rfl, by decide, .inl (XS.gly "BadWord" (by decide))⟩ (su_mk fun a oe g hs => (ss_one (s_ret (e_cPS c__law_caught (show RoomH 13 _ from ⟨hr.dp, hr.un⟩) hs takesW0 (a_cons (b_e (e_v 1)) (a_cons (b_e e_str) (a_cons (b_e (e_cPS c__law_why (show RoomH 13 _ from ⟨hr.dp, hr.un⟩) hs takesW0 (a_cons (b_e (e_v 1)) (a_cons (b_e (e_xf xsX 1 T)) a_nil)))) a_nil))))))) (HdA.cons ⟨by rfl, by decide, .inl (XS.gly "BadStream" (by decide))⟩ (su_mk fun a oe g hs => (ss_one (s_ret (e_cPS c__law_caught (show RoomH 13 _ from ⟨hr.dp, hr.un⟩) hs takesW0 (a_cons (b_e (e_v 1)) (a_cons (b_e e_str) (a_cons (b_e (e_cPS c__law_why (show RoomH 13 _ from ⟨hr.dp, hr.un⟩) hs takesW0 (a_cons (b_e (e_v 1)) (a_cons (b_e (e_xf xsX 1 T)) a_nil)))) a_nil))))))) (HdA.cons ⟨by rfl, by decide, .inl (XS.gly "BadTarget" (by decide))⟩ (su_mk fun a oe g hs => (ss_one (s_ret (e_cPS c__law_caught (show RoomH 13 _ from ⟨hr.dp, hr.un⟩) hs takesW0 (a_cons (b_e (e_v 1)) (a_cons (b_e e_str) (a_cons (b_e (e_cPS c__law_why (show RoomH 13 _ from ⟨hr.dp, hr.un⟩) hs takesW0 (a_cons (b_e (e_v 1)) (a_cons (b_e (e_xf xsX 1 T)) a_nil)))) a_nil))))))) (HdA.cons ⟨by rfl, by decide, .inl (XS.gly "BadMachine" (by decide))⟩ (su_mk fun a oe g hs => (ss_one (s_ret (e_cPS c__law_caught (show RoomH 13 _ from ⟨hr.dp, hr.un⟩) hs takesW0 (a_cons (b_e (e_v 1)) (a_cons (b_e e_str) (a_cons (b_e (e_cPS c__law_why (show RoomH 13 _ from ⟨hr.dp, hr.un⟩) hs takesW0 (a_cons (b_e (e_v 1)) (a_cons (b_e (e_xf xsX 1 T)) a_nil)))) a_nil))))))) (HdA.cons ⟨by rfl, by decide, .inl (XS.gly "BadForm" (by decide))⟩ (su_mk fun a oe g hs => (ss_one (s_ret (e_cPS c__law_caught (show RoomH 13 _ from ⟨hr.dp, hr.un⟩) hs takesW0 (a_cons (b_e (e_v 1)) (a_cons (b_e e_str) (a_cons (b_e (e_cPS c__law_why (show RoomH 13 _ from ⟨hr.dp, hr.un⟩) hs takesW0 (a_cons (b_e (e_v 1)) (a_cons (b_e (e_xf xsX 1 T)) a_nil)))) a_nil))))))) (HdA.cons ⟨by rfl, by decide, .inl (XS.gly "BadBook" (by decide))⟩ (su_mk fun a oe g hs => (ss_one (s_ret (e_cPS c__law_caught (show RoomH 13 _ from ⟨hr.dp, hr.un⟩) hs takesW0 (a_cons (b_e (e_v 1)) (a_cons (b_e e_str) (a_cons (b_e (e_cPS c__law_why (show RoomH 13 _ from ⟨hr.dp, hr.un⟩) hs takesW0 (a_cons (b_e (e_v 1)) (a_cons (b_e (e_xf xsX 1 T)) a_nil)))) a_nil))))))) (HdA.cons ⟨by rfl, by decide, .inl (XS.gly "BadPolygon" (by decide))⟩ (su_mk fun a oe g hs => (ss_one (s_ret (e_cPS c__law_caught (show RoomH 13 _ from ⟨hr.dp, hr.un⟩) hs takesW0 (a_cons (b_e (e_v 1)) (a_cons (b_e e_str) (a_cons (b_e (e_cPS c__law_why (show RoomH 13 _ from ⟨hr.dp, hr.un⟩) hs takesW0 (a_cons (b_e (e_v 1)) (a_cons (b_e (e_xf xsX 1 T)) a_nil)))) a_nil))))))) (HdA.cons ⟨by rfl, by decide, .inl (XS.gly "BadPoint" (by decide))⟩ (su_mk fun a oe g hs => (ss_one (s_ret (e_cPS c__law_caught (show RoomH 13 _ from ⟨hr.dp, hr.un⟩) hs takesW0 (a_cons (b_e (e_v 1)) (a_cons (b_e e_str) (a_cons (b_e (e_tup (l_cons (e_xf xsX 1 T) l_nil))) a_nil))))))) (HdA.cons ⟨by rfl, by decide, .inl (XS.gly "NotOne" (by decide))⟩ (su_mk fun a oe g hs => (ss_one (s_ret (e_cPS c__law_caught (show RoomH 13 _ from ⟨hr.dp, hr.un⟩) hs takesW0 (a_cons (b_e (e_v 1)) (a_cons (b_e e_str) (a_cons (b_e (e_tup (l_cons (e_xf xsX 1 T) (l_cons (e_xf xsX 1 T) l_nil)))) a_nil))))))) (HdA.cons ⟨by rfl, by decide, .inl (XS.gly "Torn" (by decide))⟩ (su_mk fun a oe g hs => (ss_one (s_ret (e_cPS c__law_caught (show RoomH 13 _ from ⟨hr.dp, hr.un⟩) hs takesW0 (a_cons (b_e (e_v 1)) (a_cons (b_e e_str) (a_cons (b_e (e_tup (l_cons (e_xf xsX 1 T) (l_cons (e_xf xsX 1 T) l_nil)))) a_nil))))))) (HdA.cons ⟨by rfl, by decide, .inl (XS.gly "Unlike" (by decide))⟩ (su_mk fun a oe g hs => (ss_one (s_ret (e_cPS c__law_caught (show RoomH 13 _ from ⟨hr.dp, hr.un⟩) hs takesW0 (a_cons (b_e (e_v 1)) (a_cons (b_e e_str) (a_cons (b_e (e_tup (l_cons (e_xf xsX 1 T) l_nil))) a_nil))))))) (HdA.cons ⟨by rfl, by decide, .inl (XS.gly "TooMany" (by decide))⟩ (su_mk fun a oe g hs => (ss_one (s_ret (e_cPS c__law_caught (show RoomH 13 _ from ⟨hr.dp, hr.un⟩) hs takesW0 (a_cons (b_e (e_v 1)) (a_cons (b_e e_str) (a_cons (b_e (e_tup (l_cons (e_xf xsX 1 T) (l_cons (e_xf xsX 1 T) l_nil)))) a_nil))))))) (HdA.cons ⟨by rfl, by decide, .inl (XS.gly "NoSuch" (by decide))⟩ (su_mk fun a oe g hs => (ss_one (s_ret (e_cPS c__law_caught (show RoomH 13 _ from ⟨hr.dp, hr.un⟩) hs takesW0 (a_cons (b_e (e_v 1)) (a_cons (b_e e_str) (a_cons (b_e (e_tup (l_cons (e_xf xsX 1 T) l_nil))) a_nil))))))) (HdA.cons ⟨by rfl, by decide, .inl (XS.gly "Ended" (by decide))⟩ (su_mk fun a oe g hs => (ss_one (s_ret (e_cPS c__law_caught (show RoomH 13 _ from ⟨hr.dp, hr.un⟩) hs takesW0 (a_cons (b_e (e_v 1)) (a_cons (b_e e_str) (a_cons (b_e (e_tup (l_cons (e_xf xsX 1 T) l_nil))) a_nil))))))) HdA.nil))))))))))))))))
abbrev m__law_likeR : DefM Unit := (m__law_like 6)
theorem d__law_refused {P : Program} {w : World} {K : PySem.W.Frag} {mg : Str → Option Value} {base : Heap} (FD : Fd K mg "_law_refused" s__law_refused) (B : Bl K mg) (c__law_like : Dx P w K mg base 6 "_law_like" s__law_like ["told", "due"] (m__law_like 6)) (c__law_tried : Dt P w K mg base 13 "_law_tried" s__law_tried xsn smX) : Dr P w K mg base 13 14 "_law_refused" s__law_refused xsn smX m__law_likeR := by
  obtain ⟨fl, fdl, ⟨FL, glL, okL⟩, bnL⟩ := c__law_like
  exact dr_mk FD sc__law_refused (fun _ _ _ _ _ _ us hl => match us, hl with | [_, _], _ => rfl) fun f cdv A outer s H E fv tl hr th hn => pss_one (ps_ret (pe_callSD (E := fun _ c d H => E c d H) okL (hr.mono (by decide)) (by rfl) glL FL.kp bnL .nil (fun σ => L2N.passAt (L2N.takes_of rfl rfl rfl rfl) σ) (pa_cons (pe_tried1 c__law_tried th hn hr (by decide) rfl (Or.inl rfl) (by rfl)) (pa_cons (pe_var (i := 1) rfl (Or.inl rfl)) pa_nil))))
theorem sc__law_short : FnScope ["lead", "ring", "span", "drop", "many", "turn", "back"] ["lead", "ring"] (defScope s__law_short) := ⟨rfl, rfl, rfl, by decide +kernel, rfl, by decide +kernel, by decide +kernel⟩
def q__law_short_1t : D → M Unit Unit := (fun d => stV 4 (.v d))
def q__law_short_2b : M Unit Fl := ifM (tAndM (tstB (eBinB eqD (argN 2) (argV (eAppB lenF (argC (argN 1) (mret [])))))) (tAndM (tstB (eBinB eqD (argV (eBin modD (eAppB intF (argC (argV (eAppB lenF (argC (argN 1) (mret [])))) (mret []))) (rdV 4))) (argV (cst (.int 0))))) (tstB (eBinB eqD (argV (eBin mulTD (eSl (argN 1) (mret none) (partM (rdV 4))) (eBin fdivD (eAppB lenF (argC (argN 1) (mret []))) (rdV 4)))) (argN 1))))) (asgM 2 (rdV 4)) (mret .nx)
def q__law_short_3t : D → M Unit Unit := (fun d => stV 5 (.v d))
def q__law_short_4b : M Unit Fl := ifM (tAndM (tstB (eBinB eqD (argN 3) (argN 5))) (tstB (eBinB eqD (argV (eIx (argN 0) (eBin subD (eBin subD (eAppB lenF (argC (argN 0) (mret []))) (cst (.int 1))) (rdV 5)))) (argV (eIx (argN 1) (eBin modD (eAppB intF (argC (argV (eBin subD (eBin subD (rdV 2) (cst (.int 1))) (rdV 5))) (mret []))) (rdV 2))))))) (asgM 3 (eBin addD (rdV 3) (cst (.int 1)))) (mret .nx)
def b__law_short : M Unit Fl := seqM (asgT (eApp tupD (lstC (eAppB tupleF (argC (argV (rdV 0)) (mret []))) (lstC (eAppB tupleF (argC (argV (rdV 1)) (mret []))) (lstC (eAppB lenF (argC (argN 1) (mret []))) (lstC (cst (.int 0)) (mret [])))))) (gtM 4 (gsC (fun d => stV 0 (.v d)) (gsC (fun d => stV 1 (.v d)) (gsC (fun d => stV 2 (.v d)) (gsC (fun d => stV 3 (.v d)) (fun ds => match ds with | [] => mret () | _ => mbad))))))) (seqM (forM (rngM2 (lstC (cst (.int 1)) (lstC (eAppB lenF (argC (argN 1) (mret []))) (mret [])))) q__law_short_1t q__law_short_2b) (seqM (forM (rngM1 (lstC (eAppB lenF (argC (argN 0) (mret []))) (mret []))) q__law_short_3t q__law_short_4b) (seqM (asgM 6 (eBin modD (eAppB intF (argC (argN 3) (mret []))) (rdV 2))) (retM (eApp tupD (lstC (eSl (argN 0) (mret none) (partM (eBin subD (eAppB lenF (argC (argN 0) (mret []))) (rdV 3)))) (lstC (eBin addD (eSl (argN 1) (partM (eBin subD (rdV 2) (rdV 6))) (partM (rdV 2))) (eSl (argN 1) (mret none) (partM (eBin subD (rdV 2) (rdV 6))))) (mret []))))))))
def m__law_short : DefM Unit := runDef 7 b__law_short
theorem d__law_short {P : Program} {w : World} {K : PySem.W.Frag} {mg : Str → Option Value} {base : Heap} (FD : Fd K mg "_law_short" s__law_short) (B : Bl K mg)  : Dx P w K mg base 1 "_law_short" s__law_short ["lead", "ring"] m__law_short :=
  dx_mk ["lead", "ring", "span", "drop", "many", "turn", "back"] FD sc__law_short (fun _ _ _ _ _ _ us hl => match us, hl with | [_, _], _ => rfl) fun f cdv A outer s H E g hG hr =>
    (ss_cons (s_asgT (e_tup (l_cons (e_bltT b_tuple (by rfl) B.tuple (by decide +kernel) (a_cons (b_e (e_v 0)) a_nil)) (l_cons (e_bltT b_tuple (by rfl) B.tuple (by decide +kernel) (a_cons (b_e (e_v 1)) a_nil)) (l_cons (e_bltB b_len (by rfl) B.len (by decide +kernel) (a_cons (b_n 1) a_nil)) (l_cons e_int l_nil))))) (g_tup rfl (gs_cons (g_name 0 sc__law_short.nd) (gs_cons (g_name 1 sc__law_short.nd) (gs_cons (g_name 2 sc__law_short.nd) (gs_cons (g_name 3 sc__law_short.nd) gs_nil)))))) (ss_cons (s_for (passes_of rfl) rfl (i_range2 B.range (l_cons e_int (l_cons (e_bltB b_len (by rfl) B.len (by decide +kernel) (a_cons (b_n 1) a_nil)) l_nil))) (g_name 4 sc__law_short.nd) (ss_one (s_if (t_w (w_and (t_cmpB (c_eq hr.units) (b_n 2) (b_e (e_bltB b_len (by rfl) B.len (by decide +kernel) (a_cons (b_n 1) a_nil)))) (w_and (t_cmpB (c_eq hr.units) (b_e (e_mod (e_bltT b_int (by rfl) B.int (by decide +kernel) (a_cons (b_e (e_bltB b_len (by rfl) B.len (by decide +kernel) (a_cons (b_n 1) a_nil))) a_nil)) (e_v 4))) (b_e e_int)) (w_and1 (t_cmpB (c_eq hr.units) (b_e (e_mulT (e_sl (b_n 1) p_none (p_some (e_v 4))) (e_fdiv (e_bltB b_len (by rfl) B.len (by decide +kernel) (a_cons (b_n 1) a_nil)) (e_v 4)))) (b_n 1)))))) (ss_one (s_asg 2 sc__law_short.nd (e_v 4))) ss_nil))) (ss_cons (s_for (passes_of rfl) rfl (i_range1 B.range (l_cons (e_bltB b_len (by rfl) B.len (by decide +kernel) (a_cons (b_n 0) a_nil)) l_nil)) (g_name 5 sc__law_short.nd) (ss_one (s_if (t_w (w_and (t_cmpB (c_eq hr.units) (b_n 3) (b_n 5)) (w_and1 (t_cmpB (c_eq hr.units) (b_e (e_ix (b_n 0) (e_sub (e_sub (e_bltB b_len (by rfl) B.len (by decide +kernel) (a_cons (b_n 0) a_nil)) e_int) (e_v 5)))) (b_e (e_ix (b_n 1) (e_mod (e_bltT b_int (by rfl) B.int (by decide +kernel) (a_cons (b_e (e_sub (e_sub (e_v 2) e_int) (e_v 5))) a_nil)) (e_v 2)))))))) (ss_one (s_asg 3 sc__law_short.nd (e_add (e_v 3) e_int))) ss_nil))) (ss_cons (s_asg 6 sc__law_short.nd (e_mod (e_bltT b_int (by rfl) B.int (by decide +kernel) (a_cons (b_n 3) a_nil)) (e_v 2))) (ss_one (s_ret (e_tup (l_cons (e_sl (b_n 0) p_none (p_some (e_sub (e_bltB b_len (by rfl) B.len (by decide +kernel) (a_cons (b_n 0) a_nil)) (e_v 3)))) (l_cons (e_add (e_sl (b_n 1) (p_some (e_sub (e_v 2) (e_v 6))) (p_some (e_v 2))) (e_sl (b_n 1) p_none (p_some (e_sub (e_v 2) (e_v 6))))) l_nil)))))))))
theorem sc__law_sign : FnScope ["lead", "ring", "at"] ["lead", "ring", "at"] (defScope s__law_sign) := ⟨rfl, rfl, rfl, by decide +kernel, rfl, by decide +kernel, by decide +kernel⟩
def b__law_sign : M Unit Fl := retM (eIfM (tstB (eBinB ltD (argN 2) (argV (eAppB lenF (argC (argN 0) (mret [])))))) (eIx (argN 0) (rdV 2)) (eIx (argN 1) (eBin modD (eAppB intF (argC (argV (eBin subD (rdV 2) (eAppB lenF (argC (argN 0) (mret []))))) (mret []))) (eAppB lenF (argC (argN 1) (mret []))))))
def m__law_sign : DefM Unit := runDef 3 b__law_sign
theorem d__law_sign {P : Program} {w : World} {K : PySem.W.Frag} {mg : Str → Option Value} {base : Heap} (FD : Fd K mg "_law_sign" s__law_sign) (B : Bl K mg)  : Dx P w K mg base 1 "_law_sign" s__law_sign ["lead", "ring", "at"] m__law_sign :=
  dx_mk ["lead", "ring", "at"] FD sc__law_sign (fun _ _ _ _ _ _ us hl => match us, hl with | [_, _, _], _ => rfl) fun f cdv A outer s H E g hG hr =>
    (ss_one (s_ret (e_if (t_cmpB c_lt (b_n 2) (b_e (e_bltB b_len (by rfl) B.len (by decide +kernel) (a_cons (b_n 0) a_nil)))) (e_ix (b_n 0) (e_v 2)) (e_ix (b_n 1) (e_mod (e_bltT b_int (by rfl) B.int (by decide +kernel) (a_cons (b_e (e_sub (e_v 2) (e_bltB b_len (by rfl) B.len (by decide +kernel) (a_cons (b_n 0) a_nil)))) a_nil)) (e_bltB b_len (by rfl) B.len (by decide +kernel) (a_cons (b_n 1) a_nil)))))))
theorem sc__law_rest : FnScope ["lead", "ring", "at", "turn"] ["lead", "ring", "at"] (defScope s__law_rest) := ⟨rfl, rfl, rfl, by decide +kernel, rfl, by decide +kernel, by decide +kernel⟩
def b__law_rest : M Unit Fl := seqM (ifM (tstB (eBinB leD (argN 2) (argV (eAppB lenF (argC (argN 0) (mret [])))))) (retM (callP 2 m__law_short (argC (argV (eSl (argN 0) (partM (rdV 2)) (mret none))) (argC (argV (rdV 1)) (mret []))))) (mret .nx)) (seqM (asgM 3 (eBin modD (eAppB intF (argC (argV (eBin subD (rdV 2) (eAppB lenF (argC (argN 0) (mret []))))) (mret []))) (eAppB lenF (argC (argN 1) (mret []))))) (retM (callP 2 m__law_short (argC (argV (eApp tupD (mret []))) (argC (argV (eBin addD (eSl (argN 1) (partM (rdV 3)) (mret none)) (eSl (argN 1) (mret none) (partM (rdV 3))))) (mret []))))))
def m__law_rest : DefM Unit := runDef 4 b__law_rest
theorem d__law_rest {P : Program} {w : World} {K : PySem.W.Frag} {mg : Str → Option Value} {base : Heap} (FD : Fd K mg "_law_rest" s__law_rest) (B : Bl K mg) (c__law_short : Dx P w K mg base 1 "_law_short" s__law_short ["lead", "ring"] m__law_short) : Dx P w K mg base 2 "_law_rest" s__law_rest ["lead", "ring", "at"] m__law_rest :=
  dx_mk ["lead", "ring", "at", "turn"] FD sc__law_rest (fun _ _ _ _ _ _ us hl => match us, hl with | [_, _, _], _ => rfl) fun f cdv A outer s H E g hG hr =>
    (ss_cons (s_if (t_cmpB c_le (b_n 2) (b_e (e_bltB b_len (by rfl) B.len (by decide +kernel) (a_cons (b_n 0) a_nil)))) (ss_one (s_ret (e_cP c__law_short hr (L2N.takes_of rfl rfl rfl rfl) (a_cons (b_e (e_sl (b_n 0) (p_some (e_v 2)) p_none)) (a_cons (b_e (e_v 1)) a_nil))))) ss_nil) (ss_cons (s_asg 3 sc__law_rest.nd (e_mod (e_bltT b_int (by rfl) B.int (by decide +kernel) (a_cons (b_e (e_sub (e_v 2) (e_bltB b_len (by rfl) B.len (by decide +kernel) (a_cons (b_n 0) a_nil)))) a_nil)) (e_bltB b_len (by rfl) B.len (by decide +kernel) (a_cons (b_n 1) a_nil)))) (ss_one (s_ret (e_cP c__law_short hr (L2N.takes_of rfl rfl rfl rfl) (a_cons (b_e (e_tup l_nil)) (a_cons (b_e (e_add (e_sl (b_n 1) (p_some (e_v 3)) p_none) (e_sl (b_n 1) p_none (p_some (e_v 3))))) a_nil)))))))
theorem sc__law_signs : FnScope ["box", "size", "many", "k"] ["box", "size", "many"] (defScope s__law_signs) := ⟨rfl, rfl, rfl, by decide +kernel, rfl, by decide +kernel, by decide +kernel⟩
def q__law_signs_1t : D → M Bx Unit := (fun d => stV 3 (.v d))
def q__law_signs_2e : M Bx RV := callB 2 m__law_draw (argC (argV (rdV 0)) (argC (argV (rdV 1)) (mret [])))
def b__law_signs : M Bx Fl := retM (eAppB tupleF (argC (argV (lcM [3] (rngM1 (lstC (rdV 2) (mret []))) q__law_signs_1t (mret true) q__law_signs_2e)) (mret [])))
def m__law_signs : DefM Bx := runDef 4 b__law_signs
theorem d__law_signs {P : Program} {w : World} {K : PySem.W.Frag} {mg : Str → Option Value} {base : Heap} (FD : Fd K mg "_law_signs" s__law_signs) (B : Bl K mg) (c__law_draw : Dx P w K mg base 1 "_law_draw" s__law_draw ["box", "size"] m__law_draw) : Dx P w K mg base 2 "_law_signs" s__law_signs ["box", "size", "many"] m__law_signs :=
  dx_mk ["box", "size", "many", "k"] FD sc__law_signs (fun _ _ _ _ _ _ us hl => match us, hl with | [_, _, _], _ => rfl) fun f cdv A outer s H E g hG hr =>
    (ss_one (s_ret (e_bltT b_tuple (by rfl) B.tuple (by decide +kernel) (a_cons (b_e (e_lc [("k", 3)] sc__law_signs.nd (i_range1 B.range (l_cons (e_v 2) l_nil)) (fun F s H C cl fp => (g_name 3 sc__law_signs.nd)) bt_nil (fun F s H C cl fp => (e_cB hG c__law_draw hr takesW0 (a_cons (b_e (e_v 0)) (a_cons (b_e (e_v 1)) a_nil)))) (ok := blkOk_by (N := ["box", "size", "many", "k"]) (sc := defScope s__law_signs) (by decide +kernel)))) a_nil))))
theorem sc__law_longer : FnScope ["box", "flow", "lead", "ring", "turn"] ["box", "flow"] (defScope s__law_longer) := ⟨rfl, rfl, rfl, by decide +kernel, rfl, by decide +kernel, by decide +kernel⟩
def q__law_longer_1t : D → M Bx Unit := (fun d => stV 4 (.v d))
def q__law_longer_2b : M Bx Fl := parM [2, 3] (lstC (eBin addD (rdV 2) (eSl (argN 3) (mret none) (partM (cst (.int 1))))) (lstC (eBin addD (eSl (argN 3) (partM (cst (.int 1))) (mret none)) (eSl (argN 3) (mret none) (partM (cst (.int 1))))) (mret [])))
def b__law_longer : M Bx Fl := seqM (asgT (rdV 1) (gtM 2 (gsC (fun d => stV 2 (.v d)) (gsC (fun d => stV 3 (.v d)) (fun ds => match ds with | [] => mret () | _ => mbad))))) (seqM (forM (rngM1 (lstC (callB 2 m__law_draw (argC (argV (rdV 0)) (argC (argV (cst (.int 4))) (mret [])))) (mret []))) q__law_longer_1t q__law_longer_2b) (retM (eApp tupD (lstC (rdV 2) (lstC (eBin mulTD (rdV 3) (eBin addD (cst (.int 1)) (callB 2 m__law_draw (argC (argV (rdV 0)) (argC (argV (cst (.int 3))) (mret [])))))) (mret []))))))
def m__law_longer : DefM Bx := runDef 5 b__law_longer
theorem d__law_longer {P : Program} {w : World} {K : PySem.W.Frag} {mg : Str → Option Value} {base : Heap} (FD : Fd K mg "_law_longer" s__law_longer) (B : Bl K mg) (c__law_draw : Dx P w K mg base 1 "_law_draw" s__law_draw ["box", "size"] m__law_draw) : Dx P w K mg base 2 "_law_longer" s__law_longer ["box", "flow"] m__law_longer :=
  dx_mk ["box", "flow", "lead", "ring", "turn"] FD sc__law_longer (fun _ _ _ _ _ _ us hl => match us, hl with | [_, _], _ => rfl) fun f cdv A outer s H E g hG hr =>
    (ss_cons (s_asgT (e_v 1) (g_tup rfl (gs_cons (g_name 2 sc__law_longer.nd) (gs_cons (g_name 3 sc__law_longer.nd) gs_nil)))) (ss_cons (s_for (passes_of rfl) rfl (i_range1 B.range (l_cons (e_cB hG c__law_draw hr (L2N.takes_of rfl rfl rfl rfl) (a_cons (b_e (e_v 0)) (a_cons (b_e e_int) a_nil))) l_nil)) (g_name 4 sc__law_longer.nd) (ss_one (s_par sc__law_longer.nd (l_cons (e_add (e_v 2) (e_sl (b_n 3) p_none (p_some e_int))) (l_cons (e_add (e_sl (b_n 3) (p_some e_int) p_none) (e_sl (b_n 3) p_none (p_some e_int))) l_nil))))) (ss_one (s_ret (e_tup (l_cons (e_v 2) (l_cons (e_mulT (e_v 3) (e_add e_int (e_cB hG c__law_draw hr (L2N.takes_of rfl rfl rfl rfl) (a_cons (b_e (e_v 0)) (a_cons (b_e e_int) a_nil))))) l_nil)))))))
theorem sc__law_room : FnScope ["box", "k"] ["box"] (defScope s__law_room) := ⟨rfl, rfl, rfl, by decide +kernel, rfl, by decide +kernel, by decide +kernel⟩
def b__law_room : M Bx Fl := seqM (asgM 1 (eBin addD (cst (.int 1)) (eBin fdivD (callB 2 m__law_draw (argC (argV (rdV 0)) (argC (argV (cst (.int 3))) (mret [])))) (cst (.int 2))))) (retM (eApp tupD (lstC (eBin addD (cst (.int 2)) (callB 2 m__law_draw (argC (argV (rdV 0)) (argC (argV (eIfM (tstB (eBinB eqD (argN 1) (argV (cst (.int 2))))) (cst (.int 3)) (cst (.int 9)))) (mret []))))) (lstC (rdV 1) (mret [])))))
def m__law_room : DefM Bx := runDef 2 b__law_room
theorem d__law_room {P : Program} {w : World} {K : PySem.W.Frag} {mg : Str → Option Value} {base : Heap} (FD : Fd K mg "_law_room" s__law_room) (B : Bl K mg) (c__law_draw : Dx P w K mg base 1 "_law_draw" s__law_draw ["box", "size"] m__law_draw) : Dx P w K mg base 2 "_law_room" s__law_room ["box"] m__law_room :=
  dx_mk ["box", "k"] FD sc__law_room (fun _ _ _ _ _ _ us hl => match us, hl with | [_], _ => rfl) fun f cdv A outer s H E g hG hr =>
    (ss_cons (s_asg 1 sc__law_room.nd (e_add e_int (e_fdiv (e_cB hG c__law_draw hr (L2N.takes_of rfl rfl rfl rfl) (a_cons (b_e (e_v 0)) (a_cons (b_e e_int) a_nil))) e_int))) (ss_one (s_ret (e_tup (l_cons (e_add e_int (e_cB hG c__law_draw hr (L2N.takes_of rfl rfl rfl rfl) (a_cons (b_e (e_v 0)) (a_cons (b_e (e_if (t_cmpB (c_eq hr.units) (b_n 1) (b_e e_int)) e_int e_int)) a_nil)))) (l_cons (e_v 1) l_nil))))))
theorem sc__law_flow_said : FnScope ["lead", "ring", "a"] ["lead", "ring"] (defScope s__law_flow_said) := ⟨rfl, rfl, rfl, by decide +kernel, rfl, by decide +kernel, by decide +kernel⟩
def q__law_flow_said_1t : D → M Unit Unit := (fun d => stV 2 (.v d))
def q__law_flow_said_2e : M Unit RV := eAppB strF (argC (argN 2) (mret []))
def q__law_flow_said_3t : D → M Unit Unit := (fun d => stV 2 (.v d))
def q__law_flow_said_4e : M Unit RV := eAppB strF (argC (argN 2) (mret []))
def b__law_flow_said : M Unit Fl := retM (sm1M joinF (cst (.str " ")) (eBin addD (eBin addD (eBin addD (lcM [2] (itM (rdV 0)) q__law_flow_said_1t (mret true) q__law_flow_said_2e) (eApp lstD (lstC (cst (.str "(")) (mret [])))) (lcM [2] (itM (rdV 1)) q__law_flow_said_3t (mret true) q__law_flow_said_4e)) (eApp lstD (lstC (cst (.str ")")) (mret [])))))
def m__law_flow_said : DefM Unit := runDef 3 b__law_flow_said
theorem d__law_flow_said {P : Program} {w : World} {K : PySem.W.Frag} {mg : Str → Option Value} {base : Heap} (FD : Fd K mg "_law_flow_said" s__law_flow_said) (B : Bl K mg)  : Dx P w K mg base 1 "_law_flow_said" s__law_flow_said ["lead", "ring"] m__law_flow_said :=
  dx_mk ["lead", "ring", "a"] FD sc__law_flow_said (fun _ _ _ _ _ _ us hl => match us, hl with | [_, _], _ => rfl) fun f cdv A outer s H E g hG hr =>
    (ss_one (s_ret (e_sm1 sm_join e_str (e_add (e_add (e_add (e_lc [("a", 2)] sc__law_flow_said.nd (i_seq (e_v 0)) (fun F s H C cl fp => (g_name 2 sc__law_flow_said.nd)) bt_nil (fun F s H C cl fp => (e_bltT b_str (by rfl) B.str (by decide +kernel) (a_cons (b_n 2) a_nil))) (ok := blkOk_by (N := ["lead", "ring", "a"]) (sc := defScope s__law_flow_said) (by decide +kernel))) (e_lst (l_cons e_str l_nil))) (e_lc [("a", 2)] sc__law_flow_said.nd (i_seq (e_v 1)) (fun F s H C cl fp => (g_name 2 sc__law_flow_said.nd)) bt_nil (fun F s H C cl fp => (e_bltT b_str (by rfl) B.str (by decide +kernel) (a_cons (b_n 2) a_nil))) (ok := blkOk_by (N := ["lead", "ring", "a"]) (sc := defScope s__law_flow_said) (by decide +kernel)))) (e_lst (l_cons e_str l_nil))))))
theorem sc__law_same : FnScope ["told", "b", "k", "flow", "due", "said"] ["told", "b", "k", "flow"] (defScope s__law_same) := ⟨rfl, rfl, rfl, by decide +kernel, rfl, by decide +kernel, by decide +kernel⟩
def b__law_same : M Unit Fl := seqM (asgM 4 (callP 2 m__law_short (argC (argV (eIx (argN 3) (cst (.int 0)))) (argC (argV (eIx (argN 3) (cst (.int 1)))) (mret []))))) (seqM (ifM (tOrM (tNotM (truM (argV (eUn (isoO "Stream" csX) (rdV 0))))) (tNotM (truM (argV (callP 2 (m__law_like 6) (argC (argV (eApp lstD (lstC (atM insX "base" (rdV 0)) (lstC (atM insX "width" (rdV 0)) (lstC (atM insX "head" (rdV 0)) (lstC (atM insX "period" (rdV 0)) (mret []))))))) (argC (argV (eApp lstD (lstC (rdV 1) (lstC (rdV 2) (lstC (eIx (argN 4) (cst (.int 0))) (lstC (eIx (argN 4) (cst (.int 1))) (mret []))))))) (mret [])))))))) (retM (cst (.bl false))) (mret .nx)) (seqM (asgM 5 (callP 2 m__law_flow_said (argC (argV (eIx (argN 4) (cst (.int 0)))) (argC (argV (eIx (argN 4) (cst (.int 1)))) (mret []))))) (retM (callP 2 (m__law_like 6) (argC (argV (eApp lstD (lstC (methM "Stream" "text" 0 m_Stream_text (rdV 0) (mret [])) (lstC (reprM "Stream" m_Stream___repr__ (rdV 0)) (lstC (eUn (boolO "Stream") (rdV 0)) (mret [])))))) (argC (argV (eApp lstD (lstC (rdV 5) (lstC (eBin addD (eBin addD (cst (.str "Stream(")) (rdV 5)) (cst (.str ")"))) (lstC (cst (.bl true)) (mret [])))))) (mret [])))))))
def m__law_same : DefM Unit := runDef 6 b__law_same
theorem d__law_same {P : Program} {w : World} {K : PySem.W.Frag} {mg : Str → Option Value} {base : Heap} (FD : Fd K mg "_law_same" s__law_same) (B : Bl K mg) (c_Stream___repr__ : Dm P w K mg base 2 "Stream" "__repr__" s_Stream___repr__ [] m_Stream___repr__) (c_Stream_text : Dm P w K mg base 1 "Stream" "text" s_Stream_text [] m_Stream_text) (c__law_like : Dx P w K mg base 6 "_law_like" s__law_like ["told", "due"] (m__law_like 6)) (c__law_short : Dx P w K mg base 1 "_law_short" s__law_short ["lead", "ring"] m__law_short) (c__law_flow_said : Dx P w K mg base 1 "_law_flow_said" s__law_flow_said ["lead", "ring"] m__law_flow_said) : Dx P w K mg base 7 "_law_same" s__law_same ["told", "b", "k", "flow"] m__law_same :=
  dx_mk ["told", "b", "k", "flow", "due", "said"] FD sc__law_same (fun _ _ _ _ _ _ us hl => match us, hl with | [_, _, _, _], _ => rfl) fun f cdv A outer s H E g hG hr =>
    (ss_cons (s_asg 4 sc__law_same.nd (e_cP c__law_short hr (L2N.takes_of rfl rfl rfl rfl) (a_cons (b_e (e_ix (b_n 3) e_int)) (a_cons (b_e (e_ix (b_n 3) e_int)) a_nil)))) (ss_cons (s_if (t_w (w_or (t_not (t_tru (b_e (e_isO csX B.TC_Stream B.isinstance (e_v 0))))) (w_or1 (t_not (t_tru (b_e (e_cP c__law_like hr (L2N.takes_of rfl rfl rfl rfl) (a_cons (b_e (e_lst (l_cons (e_at insX B.TI (e_v 0)) (l_cons (e_at insX B.TI (e_v 0)) (l_cons (e_at insX B.TI (e_v 0)) (l_cons (e_at insX B.TI (e_v 0)) l_nil)))))) (a_cons (b_e (e_lst (l_cons (e_v 1) (l_cons (e_v 2) (l_cons (e_ix (b_n 4) e_int) (l_cons (e_ix (b_n 4) e_int) l_nil)))))) a_nil))))))))) (ss_one (s_ret e_bl)) ss_nil) (ss_cons (s_asg 5 sc__law_same.nd (e_cP c__law_flow_said hr (L2N.takes_of rfl rfl rfl rfl) (a_cons (b_e (e_ix (b_n 4) e_int)) (a_cons (b_e (e_ix (b_n 4) e_int)) a_nil)))) (ss_one (s_ret (e_cP c__law_like hr (L2N.takes_of rfl rfl rfl rfl) (a_cons (b_e (e_lst (l_cons (e_meth0 c_Stream_text hr (L2N.takes_of rfl rfl rfl rfl) (e_v 0)) (l_cons (e_reprO c_Stream___repr__ hr B.repr (e_v 0)) (l_cons (e_boolO B.OP_Stream B.bool (e_v 0)) l_nil))))) (a_cons (b_e (e_lst (l_cons (e_v 5) (l_cons (e_add (e_add e_str (e_v 5)) e_str) (l_cons e_bl l_nil))))) a_nil))))))))
theorem sc__law_moved : FnScope ["flow", "at", "a", "lead", "rest", "j"] ["flow", "at", "a"] (defScope s__law_moved) := ⟨rfl, rfl, rfl, by decide +kernel, rfl, by decide +kernel, by decide +kernel⟩
def q__law_moved_1t : D → M Unit Unit := (fun d => stV 5 (.v d))
def q__law_moved_2e : M Unit RV := callP 3 m__law_sign (argC (argV (eIx (argN 0) (cst (.int 0)))) (argC (argV (eIx (argN 0) (cst (.int 1)))) (argC (argV (rdV 5)) (mret []))))
def b__law_moved : M Unit Fl := seqM (asgM 3 (eBin addD (eAppB tupleF (argC (argV (lcM [5] (rngM1 (lstC (rdV 1) (mret []))) q__law_moved_1t (mret true) q__law_moved_2e)) (mret []))) (eApp tupD (lstC (rdV 2) (mret []))))) (seqM (asgM 4 (callP 3 m__law_rest (argC (argV (eIx (argN 0) (cst (.int 0)))) (argC (argV (eIx (argN 0) (cst (.int 1)))) (argC (argV (eBin addD (rdV 1) (cst (.int 1)))) (mret [])))))) (retM (eApp tupD (lstC (eBin addD (rdV 3) (eIx (argN 4) (cst (.int 0)))) (lstC (eIx (argN 4) (cst (.int 1))) (mret []))))))
def m__law_moved : DefM Unit := runDef 6 b__law_moved
theorem d__law_moved {P : Program} {w : World} {K : PySem.W.Frag} {mg : Str → Option Value} {base : Heap} (FD : Fd K mg "_law_moved" s__law_moved) (B : Bl K mg) (c__law_sign : Dx P w K mg base 1 "_law_sign" s__law_sign ["lead", "ring", "at"] m__law_sign) (c__law_rest : Dx P w K mg base 2 "_law_rest" s__law_rest ["lead", "ring", "at"] m__law_rest) : Dx P w K mg base 3 "_law_moved" s__law_moved ["flow", "at", "a"] m__law_moved :=
  dx_mk ["flow", "at", "a", "lead", "rest", "j"] FD sc__law_moved (fun _ _ _ _ _ _ us hl => match us, hl with | [_, _, _], _ => rfl) fun f cdv A outer s H E g hG hr =>
    (ss_cons (s_asg 3 sc__law_moved.nd (e_add (e_bltT b_tuple (by rfl) B.tuple (by decide +kernel) (a_cons (b_e (e_lc [("j", 5)] sc__law_moved.nd (i_range1 B.range (l_cons (e_v 1) l_nil)) (fun F s H C cl fp => (g_name 5 sc__law_moved.nd)) bt_nil (fun F s H C cl fp => (e_cP c__law_sign hr takesW0 (a_cons (b_e (e_ix (b_n 0) e_int)) (a_cons (b_e (e_ix (b_n 0) e_int)) (a_cons (b_e (e_v 5)) a_nil))))) (ok := blkOk_by (N := ["flow", "at", "a", "lead", "rest", "j"]) (sc := defScope s__law_moved) (by decide +kernel)))) a_nil)) (e_tup (l_cons (e_v 2) l_nil)))) (ss_cons (s_asg 4 sc__law_moved.nd (e_cP c__law_rest hr (L2N.takes_of rfl rfl rfl rfl) (a_cons (b_e (e_ix (b_n 0) e_int)) (a_cons (b_e (e_ix (b_n 0) e_int)) (a_cons (b_e (e_add (e_v 1) e_int)) a_nil))))) (ss_one (s_ret (e_tup (l_cons (e_add (e_v 3) (e_ix (b_n 4) e_int)) (l_cons (e_ix (b_n 4) e_int) l_nil)))))))
theorem sc__law_letters_asked : FnScope ["box", "told", "flow", "turn", "at", "many", "j"] ["box", "told", "flow"] (defScope s__law_letters_asked) := ⟨rfl, rfl, rfl, by decide +kernel, rfl, by decide +kernel, by decide +kernel⟩
def q__law_letters_asked_1t : D → M Bx Unit := (fun d => stV 6 (.v d))
def q__law_letters_asked_2e : M Bx RV := callP 3 m__law_sign (argC (argV (eIx (argN 2) (cst (.int 0)))) (argC (argV (eIx (argN 2) (cst (.int 1)))) (argC (argV (rdV 6)) (mret []))))
def q__law_letters_asked_3t : D → M Bx Unit := (fun d => stV 3 (.v d))
def q__law_letters_asked_4b : M Bx Fl := seqM (parM [4, 5] (lstC (eBin addD (cst (.int 1)) (callB 2 m__law_draw (argC (argV (rdV 0)) (argC (argV (eIfM (tstB (eBinB eqD (argV (callB 2 m__law_draw (argC (argV (rdV 0)) (argC (argV (cst (.int 4))) (mret []))))) (argV (cst (.int 0))))) (cst (.int 200)) (cst (.int 24)))) (mret []))))) (lstC (callB 2 m__law_draw (argC (argV (rdV 0)) (argC (argV (eIfM (tstB (eBinB eqD (argV (callB 2 m__law_draw (argC (argV (rdV 0)) (argC (argV (cst (.int 8))) (mret []))))) (argV (cst (.int 0))))) (cst (.int 200)) (cst (.int 14)))) (mret [])))) (mret [])))) (seqM (ifM (tNotM (truM (argV (callP 2 (m__law_like 6) (argC (argV (eApp lstD (lstC (methM "Stream" "letter" 1 m_Stream_letter (rdV 1) (argC (argV (rdV 4)) (mret []))) (lstC (methK "Stream" "letter" 1 1 [0] m_Stream_letter (rdV 1) (argC (argV (rdV 4)) (mret []))) (mret []))))) (argC (argV (eBin mulD (eApp lstD (lstC (callP 3 m__law_sign (argC (argV (eIx (argN 2) (cst (.int 0)))) (argC (argV (eIx (argN 2) (cst (.int 1)))) (argC (argV (eBin subD (rdV 4) (cst (.int 1)))) (mret []))))) (mret []))) (cst (.int 2)))) (mret []))))))) (retM (cst (.bl false))) (mret .nx)) (ifM (tNotM (truM (argV (callP 2 (m__law_like 6) (argC (argV (listGM "Stream" "upto" 1 m_Stream_upto (rdV 1) (argC (argV (rdV 5)) (mret [])))) (argC (argV (lcM [6] (rngM1 (lstC (rdV 5) (mret []))) q__law_letters_asked_1t (mret true) q__law_letters_asked_2e)) (mret []))))))) (retM (cst (.bl false))) (mret .nx)))
def b__law_letters_asked : M Bx Fl := seqM (forM (rngM1 (lstC (cst (.int 4)) (mret []))) q__law_letters_asked_3t q__law_letters_asked_4b) (retM (callP 2 (m__law_like 6) (argC (argV (eApp lstD (lstC (listGM "Stream" "upto" 1 m_Stream_upto (rdV 1) (argC (argV (cst (.int 0))) (mret []))) (lstC (listGK "Stream" "upto" 1 1 [0] m_Stream_upto (rdV 1) (argC (argV (cst (.int 1))) (mret []))) (mret []))))) (argC (argV (eApp lstD (lstC (eApp lstD (mret [])) (lstC (eApp lstD (lstC (callP 3 m__law_sign (argC (argV (eIx (argN 2) (cst (.int 0)))) (argC (argV (eIx (argN 2) (cst (.int 1)))) (argC (argV (cst (.int 0))) (mret []))))) (mret []))) (mret []))))) (mret [])))))
def m__law_letters_asked : DefM Bx := runDef 7 b__law_letters_asked
theorem d__law_letters_asked {P : Program} {w : World} {K : PySem.W.Frag} {mg : Str → Option Value} {base : Heap} (FD : Fd K mg "_law_letters_asked" s__law_letters_asked) (B : Bl K mg) (c_Stream_letter : Dm P w K mg base 2 "Stream" "letter" s_Stream_letter ["place"] m_Stream_letter) (c_Stream_upto : Dgm P w K mg base 3 "Stream" "upto" s_Stream_upto ["count"] m_Stream_upto) (c__law_draw : Dx P w K mg base 1 "_law_draw" s__law_draw ["box", "size"] m__law_draw) (c__law_like : Dx P w K mg base 6 "_law_like" s__law_like ["told", "due"] (m__law_like 6)) (c__law_sign : Dx P w K mg base 1 "_law_sign" s__law_sign ["lead", "ring", "at"] m__law_sign) : Dx P w K mg base 7 "_law_letters_asked" s__law_letters_asked ["box", "told", "flow"] m__law_letters_asked :=
  dx_mk ["box", "told", "flow", "turn", "at", "many", "j"] FD sc__law_letters_asked (fun _ _ _ _ _ _ us hl => match us, hl with | [_, _, _], _ => rfl) fun f cdv A outer s H E g hG hr =>
    (ss_cons (s_for (passes_of rfl) rfl (i_range1 B.range (l_cons e_int l_nil)) (g_name 3 sc__law_letters_asked.nd) (ss_cons (s_par sc__law_letters_asked.nd (l_cons (e_add e_int (e_cB hG c__law_draw hr (L2N.takes_of rfl rfl rfl rfl) (a_cons (b_e (e_v 0)) (a_cons (b_e (e_if (t_cmpB (c_eq hr.units) (b_e (e_cB hG c__law_draw hr (L2N.takes_of rfl rfl rfl rfl) (a_cons (b_e (e_v 0)) (a_cons (b_e e_int) a_nil)))) (b_e e_int)) e_int e_int)) a_nil)))) (l_cons (e_cB hG c__law_draw hr (L2N.takes_of rfl rfl rfl rfl) (a_cons (b_e (e_v 0)) (a_cons (b_e (e_if (t_cmpB (c_eq hr.units) (b_e (e_cB hG c__law_draw hr (L2N.takes_of rfl rfl rfl rfl) (a_cons (b_e (e_v 0)) (a_cons (b_e e_int) a_nil)))) (b_e e_int)) e_int e_int)) a_nil))) l_nil))) (ss_cons (s_if (t_not (t_tru (b_e (e_cP c__law_like hr (L2N.takes_of rfl rfl rfl rfl) (a_cons (b_e (e_lst (l_cons (e_meth c_Stream_letter hr (L2N.takes_of rfl rfl rfl rfl) (e_v 1) (a_cons (b_e (e_v 4)) a_nil)) (l_cons (e_methK0 (ks := ["place"]) [0] c_Stream_letter hr (L2N.takes_of rfl rfl rfl rfl) (fun _ _ _ _ _ _ us ws hl hw => match us, ws, hl, hw with | [_], [_], _, _ => rfl) (e_v 1) (k_cons (b_e (e_v 4)) k_nil)) l_nil)))) (a_cons (b_e (e_mul (e_lst (l_cons (e_cP c__law_sign hr (L2N.takes_of rfl rfl rfl rfl) (a_cons (b_e (e_ix (b_n 2) e_int)) (a_cons (b_e (e_ix (b_n 2) e_int)) (a_cons (b_e (e_sub (e_v 4) e_int)) a_nil)))) l_nil)) e_int)) a_nil)))))) (ss_one (s_ret e_bl)) ss_nil) (ss_one (s_if (t_not (t_tru (b_e (e_cP c__law_like hr (L2N.takes_of rfl rfl rfl rfl) (a_cons (b_e (e_listGM c_Stream_upto hr B.list (e_v 1) (a_cons (b_e (e_v 5)) a_nil))) (a_cons (b_e (e_lc [("j", 6)] sc__law_letters_asked.nd (i_range1 B.range (l_cons (e_v 5) l_nil)) (fun F s H C cl fp => (g_name 6 sc__law_letters_asked.nd)) bt_nil (fun F s H C cl fp => (e_cP c__law_sign hr takesW0 (a_cons (b_e (e_ix (b_n 2) e_int)) (a_cons (b_e (e_ix (b_n 2) e_int)) (a_cons (b_e (e_v 6)) a_nil))))) (ok := blkOk_by (N := ["box", "told", "flow", "turn", "at", "many", "j"]) (sc := defScope s__law_letters_asked) (by decide +kernel)))) a_nil)))))) (ss_one (s_ret e_bl)) ss_nil))))) (ss_one (s_ret (e_cP c__law_like hr (L2N.takes_of rfl rfl rfl rfl) (a_cons (b_e (e_lst (l_cons (e_listGM c_Stream_upto hr B.list (e_v 1) (a_cons (b_e e_int) a_nil)) (l_cons (e_listGK0 (ks := ["count"]) [0] c_Stream_upto hr B.list (fun _ _ _ _ _ _ us ws hl hw => match us, ws, hl, hw with | [_], [_], _, _ => rfl) (e_v 1) (k_cons (b_e e_int) k_nil)) l_nil)))) (a_cons (b_e (e_lst (l_cons (e_lst l_nil) (l_cons (e_lst (l_cons (e_cP c__law_sign hr (L2N.takes_of rfl rfl rfl rfl) (a_cons (b_e (e_ix (b_n 2) e_int)) (a_cons (b_e (e_ix (b_n 2) e_int)) (a_cons (b_e e_int) a_nil)))) l_nil)) l_nil)))) a_nil))))))
theorem sc__law_parts_asked : FnScope ["box", "b", "k", "told", "flow", "size", "turn", "many", "ahead", "back"] ["box", "b", "k", "told", "flow", "size"] (defScope s__law_parts_asked) := ⟨rfl, rfl, rfl, by decide +kernel, rfl, by decide +kernel, by decide +kernel⟩
def q__law_parts_asked_1t : D → M Bx Unit := (fun d => stV 6 (.v d))
def q__law_parts_asked_2b : M Bx Fl := seqM (parM [7, 8] (lstC (callB 2 m__law_draw (argC (argV (rdV 0)) (argC (argV (eIfM (tstB (eBinB eqD (argV (callB 2 m__law_draw (argC (argV (rdV 0)) (argC (argV (cst (.int 4))) (mret []))))) (argV (cst (.int 0))))) (cst (.int 40)) (cst (.int 10)))) (mret [])))) (lstC (callB 3 m__law_signs (argC (argV (rdV 0)) (argC (argV (rdV 5)) (argC (argV (callB 2 m__law_draw (argC (argV (rdV 0)) (argC (argV (cst (.int 6))) (mret []))))) (mret []))))) (mret [])))) (seqM (ifM (tNotM (truM (argV (callP 4 m__law_same (argC (argV (methM "Stream" "rest" 1 m_Stream_rest (rdV 3) (argC (argV (rdV 7)) (mret [])))) (argC (argV (rdV 1)) (argC (argV (rdV 2)) (argC (argV (callP 3 m__law_rest (argC (argV (eIx (argN 4) (cst (.int 0)))) (argC (argV (eIx (argN 4) (cst (.int 1)))) (argC (argV (rdV 7)) (mret [])))))) (mret []))))))))) (retM (cst (.bl false))) (mret .nx)) (seqM (ifM (tNotM (truM (argV (callP 4 m__law_same (argC (argV (methM "Stream" "prefixed" 1 m_Stream_prefixed (rdV 3) (argC (argV (rdV 8)) (mret [])))) (argC (argV (rdV 1)) (argC (argV (rdV 2)) (argC (argV (eApp tupD (lstC (eBin addD (rdV 8) (eIx (argN 4) (cst (.int 0)))) (lstC (eIx (argN 4) (cst (.int 1))) (mret []))))) (mret []))))))))) (retM (cst (.bl false))) (mret .nx)) (seqM (asgM 9 (methK "Stream" "prefixed" 1 1 [0] m_Stream_prefixed (methK "Stream" "rest" 1 1 [0] m_Stream_rest (rdV 3) (argC (argV (rdV 7)) (mret []))) (argC (argV (eAppB tupleF (argC (argV (listGM "Stream" "upto" 1 m_Stream_upto (rdV 3) (argC (argV (rdV 7)) (mret [])))) (mret [])))) (mret [])))) (seqM (ifM (tOrM (tNotM (tstB (cmpM "Stream" false m_Stream___eq__ (rdV 9) (rdV 3)))) (tNotM (truM (argV (callP 4 m__law_same (argC (argV (rdV 9)) (argC (argV (rdV 1)) (argC (argV (rdV 2)) (argC (argV (rdV 4)) (mret [])))))))))) (retM (cst (.bl false))) (mret .nx)) (ifM (tNotM (truM (argV (callP 4 m__law_same (argC (argV (methM "Stream" "rest" 1 m_Stream_rest (methM "Stream" "prefixed" 1 m_Stream_prefixed (rdV 3) (argC (argV (rdV 8)) (mret []))) (argC (argV (eAppB lenF (argC (argN 8) (mret [])))) (mret [])))) (argC (argV (rdV 1)) (argC (argV (rdV 2)) (argC (argV (rdV 4)) (mret []))))))))) (retM (cst (.bl false))) (mret .nx))))))
def b__law_parts_asked : M Bx Fl := seqM (forM (rngM1 (lstC (cst (.int 3)) (mret []))) q__law_parts_asked_1t q__law_parts_asked_2b) (retM (eAndM (cmpM "Stream" false m_Stream___eq__ (methM "Stream" "rest" 1 m_Stream_rest (rdV 3) (argC (argV (cst (.int 0))) (mret []))) (rdV 3)) (cmpM "Stream" false m_Stream___eq__ (methM "Stream" "prefixed" 1 m_Stream_prefixed (rdV 3) (argC (argV (eApp tupD (mret []))) (mret []))) (rdV 3))))
def m__law_parts_asked : DefM Bx := runDef 10 b__law_parts_asked
theorem d__law_parts_asked {P : Program} {w : World} {K : PySem.W.Frag} {mg : Str → Option Value} {base : Heap} (FD : Fd K mg "_law_parts_asked" s__law_parts_asked) (B : Bl K mg) (c_Stream___eq__ : Dm P w K mg base 1 "Stream" "__eq__" s_Stream___eq__ ["other"] m_Stream___eq__) (c_Stream_prefixed : Dm P w K mg base 5 "Stream" "prefixed" s_Stream_prefixed ["word"] m_Stream_prefixed) (c_Stream_rest : Dm P w K mg base 5 "Stream" "rest" s_Stream_rest ["count"] m_Stream_rest) (c_Stream_upto : Dgm P w K mg base 3 "Stream" "upto" s_Stream_upto ["count"] m_Stream_upto) (c__law_draw : Dx P w K mg base 1 "_law_draw" s__law_draw ["box", "size"] m__law_draw) (c__law_rest : Dx P w K mg base 2 "_law_rest" s__law_rest ["lead", "ring", "at"] m__law_rest) (c__law_signs : Dx P w K mg base 2 "_law_signs" s__law_signs ["box", "size", "many"] m__law_signs) (c__law_same : Dx P w K mg base 7 "_law_same" s__law_same ["told", "b", "k", "flow"] m__law_same) : Dx P w K mg base 8 "_law_parts_asked" s__law_parts_asked ["box", "b", "k", "told", "flow", "size"] m__law_parts_asked :=
  dx_mk ["box", "b", "k", "told", "flow", "size", "turn", "many", "ahead", "back"] FD sc__law_parts_asked (fun _ _ _ _ _ _ us hl => match us, hl with | [_, _, _, _, _, _], _ => rfl) fun f cdv A outer s H E g hG hr =>
    (ss_cons (s_for (passes_of rfl) rfl (i_range1 B.range (l_cons e_int l_nil)) (g_name 6 sc__law_parts_asked.nd) (ss_cons (s_par sc__law_parts_asked.nd (l_cons (e_cB hG c__law_draw hr (L2N.takes_of rfl rfl rfl rfl) (a_cons (b_e (e_v 0)) (a_cons (b_e (e_if (t_cmpB (c_eq hr.units) (b_e (e_cB hG c__law_draw hr (L2N.takes_of rfl rfl rfl rfl) (a_cons (b_e (e_v 0)) (a_cons (b_e e_int) a_nil)))) (b_e e_int)) e_int e_int)) a_nil))) (l_cons (e_cB hG c__law_signs hr (L2N.takes_of rfl rfl rfl rfl) (a_cons (b_e (e_v 0)) (a_cons (b_e (e_v 5)) (a_cons (b_e (e_cB hG c__law_draw hr (L2N.takes_of rfl rfl rfl rfl) (a_cons (b_e (e_v 0)) (a_cons (b_e e_int) a_nil)))) a_nil)))) l_nil))) (ss_cons (s_if (t_not (t_tru (b_e (e_cP c__law_same hr (L2N.takes_of rfl rfl rfl rfl) (a_cons (b_e (e_meth c_Stream_rest hr (L2N.takes_of rfl rfl rfl rfl) (e_v 3) (a_cons (b_e (e_v 7)) a_nil))) (a_cons (b_e (e_v 1)) (a_cons (b_e (e_v 2)) (a_cons (b_e (e_cP c__law_rest hr (L2N.takes_of rfl rfl rfl rfl) (a_cons (b_e (e_ix (b_n 4) e_int)) (a_cons (b_e (e_ix (b_n 4) e_int)) (a_cons (b_e (e_v 7)) a_nil))))) a_nil)))))))) (ss_one (s_ret e_bl)) ss_nil) (ss_cons (s_if (t_not (t_tru (b_e (e_cP c__law_same hr (L2N.takes_of rfl rfl rfl rfl) (a_cons (b_e (e_meth c_Stream_prefixed hr (L2N.takes_of rfl rfl rfl rfl) (e_v 3) (a_cons (b_e (e_v 8)) a_nil))) (a_cons (b_e (e_v 1)) (a_cons (b_e (e_v 2)) (a_cons (b_e (e_tup (l_cons (e_add (e_v 8) (e_ix (b_n 4) e_int)) (l_cons (e_ix (b_n 4) e_int) l_nil)))) a_nil)))))))) (ss_one (s_ret e_bl)) ss_nil) (ss_cons (s_asg 9 sc__law_parts_asked.nd (e_methK0 (ks := ["word"]) [0] c_Stream_prefixed hr (L2N.takes_of rfl rfl rfl rfl) (fun _ _ _ _ _ _ us ws hl hw => match us, ws, hl, hw with | [_], [_], _, _ => rfl) (e_methK0 (ks := ["count"]) [0] c_Stream_rest hr (L2N.takes_of rfl rfl rfl rfl) (fun _ _ _ _ _ _ us ws hl hw => match us, ws, hl, hw with | [_], [_], _, _ => rfl) (e_v 3) (k_cons (b_e (e_v 7)) k_nil)) (k_cons (b_e (e_bltT b_tuple (by rfl) B.tuple (by decide +kernel) (a_cons (b_e (e_listGM c_Stream_upto hr B.list (e_v 3) (a_cons (b_e (e_v 7)) a_nil))) a_nil))) k_nil))) (ss_cons (s_if (t_w (w_or (t_not (t_eqA c_Stream___eq__ hr (e_v 9) (e_v 3))) (w_or1 (t_not (t_tru (b_e (e_cP c__law_same hr (L2N.takes_of rfl rfl rfl rfl) (a_cons (b_e (e_v 9)) (a_cons (b_e (e_v 1)) (a_cons (b_e (e_v 2)) (a_cons (b_e (e_v 4)) a_nil))))))))))) (ss_one (s_ret e_bl)) ss_nil) (ss_one (s_if (t_not (t_tru (b_e (e_cP c__law_same hr (L2N.takes_of rfl rfl rfl rfl) (a_cons (b_e (e_meth c_Stream_rest hr (L2N.takes_of rfl rfl rfl rfl) (e_meth c_Stream_prefixed hr (L2N.takes_of rfl rfl rfl rfl) (e_v 3) (a_cons (b_e (e_v 8)) a_nil)) (a_cons (b_e (e_bltB b_len (by rfl) B.len (by decide +kernel) (a_cons (b_n 8) a_nil))) a_nil))) (a_cons (b_e (e_v 1)) (a_cons (b_e (e_v 2)) (a_cons (b_e (e_v 4)) a_nil)))))))) (ss_one (s_ret e_bl)) ss_nil)))))))) (ss_one (s_ret (e_and (e_eqA c_Stream___eq__ hr (e_meth c_Stream_rest hr (L2N.takes_of rfl rfl rfl rfl) (e_v 3) (a_cons (b_e e_int) a_nil)) (e_v 3)) (e_one (e_eqA c_Stream___eq__ hr (e_meth c_Stream_prefixed hr (L2N.takes_of rfl rfl rfl rfl) (e_v 3) (a_cons (b_e (e_tup l_nil)) a_nil)) (e_v 3)))))))
theorem sc__law_unlike_asked : FnScope ["box", "b", "k", "told", "flow", "size", "at", "a", "near", "far"] ["box", "b", "k", "told", "flow", "size"] (defScope s__law_unlike_asked) := ⟨rfl, rfl, rfl, by decide +kernel, rfl, by decide +kernel, by decide +kernel⟩
def b__law_unlike_asked : M Bx Fl := seqM (asgM 6 (callB 2 m__law_draw (argC (argV (rdV 0)) (argC (argV (eIfM (tstB (eBinB eqD (argV (callB 2 m__law_draw (argC (argV (rdV 0)) (argC (argV (cst (.int 3))) (mret []))))) (argV (cst (.int 0))))) (cst (.int 60)) (cst (.int 9)))) (mret []))))) (seqM (asgM 7 (callP 3 m__law_sign (argC (argV (eIx (argN 4) (cst (.int 0)))) (argC (argV (eIx (argN 4) (cst (.int 1)))) (argC (argV (rdV 6)) (mret [])))))) (seqM (asgM 8 (callP 3 m__law_moved (argC (argV (rdV 4)) (argC (argV (rdV 6)) (argC (argV (eBin modD (eAppB intF (argC (argV (eBin addD (eBin addD (rdV 7) (cst (.int 1))) (callB 2 m__law_draw (argC (argV (rdV 0)) (argC (argV (eBin subD (rdV 5) (cst (.int 1)))) (mret [])))))) (mret []))) (rdV 5))) (mret [])))))) (seqM (asgM 9 (makeM "Stream" 4 m_Stream___init__ (argC (argV (rdV 1)) (argC (argV (rdV 2)) (argC (argV (eIx (argN 8) (cst (.int 0)))) (argC (argV (eIx (argN 8) (cst (.int 1)))) (mret []))))))) (seqM (ifM (tOrM (tstB (cmpM "Stream" false m_Stream___eq__ (rdV 3) (rdV 9))) (tOrM (tstB (cmpM "Stream" false m_Stream___eq__ (rdV 9) (rdV 3))) (tOrM (tNotM (tstB (cmpM "Stream" true m_Stream___eq__ (rdV 3) (rdV 9)))) (tNotM (truM (argV (callP 4 m__law_same (argC (argV (rdV 9)) (argC (argV (rdV 1)) (argC (argV (rdV 2)) (argC (argV (rdV 8)) (mret [])))))))))))) (retM (cst (.bl false))) (mret .nx)) (seqM (ifM (tAndM (tstB (eBinB eqD (argN 2) (argV (cst (.int 1))))) (tAndM (tstB (eBinB ltD (argN 1) (argV (cst (.int 10))))) (tstB (cmpM "Stream" false m_Stream___eq__ (makeM "Stream" 4 m_Stream___init__ (argC (argV (eBin addD (rdV 1) (cst (.int 1)))) (argC (argV (cst (.int 1))) (argC (argV (eIx (argN 4) (cst (.int 0)))) (argC (argV (eIx (argN 4) (cst (.int 1)))) (mret [])))))) (rdV 3))))) (retM (cst (.bl false))) (mret .nx)) (seqM (ifM (tAndM (tstB (eBinB eqD (argN 2) (argV (cst (.int 1))))) (tAndM (tstB (eBinB ltD (argN 1) (argV (cst (.int 5))))) (tstB (cmpM "Stream" false m_Stream___eq__ (makeM "Stream" 4 m_Stream___init__ (argC (argV (rdV 1)) (argC (argV (cst (.int 2))) (argC (argV (eIx (argN 4) (cst (.int 0)))) (argC (argV (eIx (argN 4) (cst (.int 1)))) (mret [])))))) (rdV 3))))) (retM (cst (.bl false))) (mret .nx)) (retM (eAndM (eNotM (cmpM "Stream" false m_Stream___eq__ (rdV 3) (methM "Stream" "text" 0 m_Stream_text (rdV 3) (mret [])))) (eAndM (eNotM (cmpM "Stream" false m_Stream___eq__ (rdV 3) (eApp tupD (lstC (atM insX "head" (rdV 3)) (lstC (atM insX "period" (rdV 3)) (mret [])))))) (eNotM (cmpM "Stream" false m_Stream___eq__ (rdV 3) (reprM "Stream" m_Stream___repr__ (rdV 3)))))))))))))
def m__law_unlike_asked : DefM Bx := runDef 10 b__law_unlike_asked
theorem d__law_unlike_asked {P : Program} {w : World} {K : PySem.W.Frag} {mg : Str → Option Value} {base : Heap} (FD : Fd K mg "_law_unlike_asked" s__law_unlike_asked) (B : Bl K mg) (c_Stream___eq__ : Dm P w K mg base 1 "Stream" "__eq__" s_Stream___eq__ ["other"] m_Stream___eq__) (c_Stream___init__ : Dc P w K mg base 3 "Stream" s_Stream___init__ ["base", "width", "head", "period"] m_Stream___init__) (c_Stream___repr__ : Dm P w K mg base 2 "Stream" "__repr__" s_Stream___repr__ [] m_Stream___repr__) (c_Stream_text : Dm P w K mg base 1 "Stream" "text" s_Stream_text [] m_Stream_text) (c__law_draw : Dx P w K mg base 1 "_law_draw" s__law_draw ["box", "size"] m__law_draw) (c__law_sign : Dx P w K mg base 1 "_law_sign" s__law_sign ["lead", "ring", "at"] m__law_sign) (c__law_same : Dx P w K mg base 7 "_law_same" s__law_same ["told", "b", "k", "flow"] m__law_same) (c__law_moved : Dx P w K mg base 3 "_law_moved" s__law_moved ["flow", "at", "a"] m__law_moved) : Dx P w K mg base 8 "_law_unlike_asked" s__law_unlike_asked ["box", "b", "k", "told", "flow", "size"] m__law_unlike_asked :=
  dx_mk ["box", "b", "k", "told", "flow", "size", "at", "a", "near", "far"] FD sc__law_unlike_asked (fun _ _ _ _ _ _ us hl => match us, hl with | [_, _, _, _, _, _], _ => rfl) fun f cdv A outer s H E g hG hr =>
    (ss_cons (s_asg 6 sc__law_unlike_asked.nd (e_cB hG c__law_draw hr (L2N.takes_of rfl rfl rfl rfl) (a_cons (b_e (e_v 0)) (a_cons (b_e (e_if (t_cmpB (c_eq hr.units) (b_e (e_cB hG c__law_draw hr (L2N.takes_of rfl rfl rfl rfl) (a_cons (b_e (e_v 0)) (a_cons (b_e e_int) a_nil)))) (b_e e_int)) e_int e_int)) a_nil)))) (ss_cons (s_asg 7 sc__law_unlike_asked.nd (e_cP c__law_sign hr (L2N.takes_of rfl rfl rfl rfl) (a_cons (b_e (e_ix (b_n 4) e_int)) (a_cons (b_e (e_ix (b_n 4) e_int)) (a_cons (b_e (e_v 6)) a_nil))))) (ss_cons (s_asg 8 sc__law_unlike_asked.nd (e_cP c__law_moved hr (L2N.takes_of rfl rfl rfl rfl) (a_cons (b_e (e_v 4)) (a_cons (b_e (e_v 6)) (a_cons (b_e (e_mod (e_bltT b_int (by rfl) B.int (by decide +kernel) (a_cons (b_e (e_add (e_add (e_v 7) e_int) (e_cB hG c__law_draw hr (L2N.takes_of rfl rfl rfl rfl) (a_cons (b_e (e_v 0)) (a_cons (b_e (e_sub (e_v 5) e_int)) a_nil))))) a_nil)) (e_v 5))) a_nil))))) (ss_cons (s_asg 9 sc__law_unlike_asked.nd (e_make c_Stream___init__ hr (L2N.takes_of rfl rfl rfl rfl) (a_cons (b_e (e_v 1)) (a_cons (b_e (e_v 2)) (a_cons (b_e (e_ix (b_n 8) e_int)) (a_cons (b_e (e_ix (b_n 8) e_int)) a_nil)))))) (ss_cons (s_if (t_w (w_or (t_eqA c_Stream___eq__ hr (e_v 3) (e_v 9)) (w_or (t_eqA c_Stream___eq__ hr (e_v 9) (e_v 3)) (w_or (t_not (t_neA c_Stream___eq__ B.OP_Stream hr (e_v 3) (e_v 9))) (w_or1 (t_not (t_tru (b_e (e_cP c__law_same hr (L2N.takes_of rfl rfl rfl rfl) (a_cons (b_e (e_v 9)) (a_cons (b_e (e_v 1)) (a_cons (b_e (e_v 2)) (a_cons (b_e (e_v 8)) a_nil))))))))))))) (ss_one (s_ret e_bl)) ss_nil) (ss_cons (s_if (t_w (w_and (t_cmpB (c_eq hr.units) (b_n 2) (b_e e_int)) (w_and (t_cmpB c_lt (b_n 1) (b_e e_int)) (w_and1 (t_eqA c_Stream___eq__ hr (e_make c_Stream___init__ hr (L2N.takes_of rfl rfl rfl rfl) (a_cons (b_e (e_add (e_v 1) e_int)) (a_cons (b_e e_int) (a_cons (b_e (e_ix (b_n 4) e_int)) (a_cons (b_e (e_ix (b_n 4) e_int)) a_nil))))) (e_v 3)))))) (ss_one (s_ret e_bl)) ss_nil) (ss_cons (s_if (t_w (w_and (t_cmpB (c_eq hr.units) (b_n 2) (b_e e_int)) (w_and (t_cmpB c_lt (b_n 1) (b_e e_int)) (w_and1 (t_eqA c_Stream___eq__ hr (e_make c_Stream___init__ hr (L2N.takes_of rfl rfl rfl rfl) (a_cons (b_e (e_v 1)) (a_cons (b_e e_int) (a_cons (b_e (e_ix (b_n 4) e_int)) (a_cons (b_e (e_ix (b_n 4) e_int)) a_nil))))) (e_v 3)))))) (ss_one (s_ret e_bl)) ss_nil) (ss_one (s_ret (e_and (e_not (e_eqA c_Stream___eq__ hr (e_v 3) (e_meth0 c_Stream_text hr (L2N.takes_of rfl rfl rfl rfl) (e_v 3)))) (e_and (e_not (e_eqA c_Stream___eq__ hr (e_v 3) (e_tup (l_cons (e_at insX B.TI (e_v 3)) (l_cons (e_at insX B.TI (e_v 3)) l_nil))))) (e_one (e_not (e_eqA c_Stream___eq__ hr (e_v 3) (e_reprO c_Stream___repr__ hr B.repr (e_v 3))))))))))))))))
theorem sc__law_refused_here : FnScope ["box", "b", "k", "flow", "size", "strange", "lead", "ring"] ["box", "b", "k", "flow", "size"] (defScope s__law_refused_here) := ⟨rfl, rfl, rfl, by decide +kernel, rfl, by decide +kernel, by decide +kernel⟩
def b__law_refused_here : M Bx Fl := seqM (asgM 5 (callB 2 m__law_of (argC (argV (rdV 0)) (argC (argV (eApp lstD (lstC (rdV 4) (lstC (eUn negD (cst (.int 1))) (lstC (eBin addD (rdV 4) (cst (.int 1))) (lstC (eBin subD (cst (.int 0)) (rdV 4)) (lstC (cst (.int 1000)) (mret [])))))))) (mret []))))) (seqM (parO 6 7 (eAppB listF (argC (argV (eIx (argN 3) (cst (.int 0)))) (mret []))) (eAppB listF (argC (argV (eIx (argN 3) (cst (.int 1)))) (mret [])))) (seqM (ifM (tstB (eBinB eqD (argV (callB 2 m__law_draw (argC (argV (rdV 0)) (argC (argV (cst (.int 2))) (mret []))))) (argV (cst (.int 0))))) (dropM (metM 6 insertF (lstC (callB 2 m__law_draw (argC (argV (rdV 0)) (argC (argV (eBin addD (eAppB lenF (argC (argN 6) (mret []))) (cst (.int 1)))) (mret [])))) (lstC (rdV 5) (mret []))))) (dropM (metM 7 insertF (lstC (callB 2 m__law_draw (argC (argV (rdV 0)) (argC (argV (eBin addD (eAppB lenF (argC (argN 7) (mret []))) (cst (.int 1)))) (mret [])))) (lstC (rdV 5) (mret [])))))) (seqM (ifM (tNotM (truM (argV (refusedM xsn smX m__law_likeR (makeB "Stream" 4 m_Stream___init__ (argC (argV (rdV 1)) (argC (argV (rdV 2)) (argC (argN 6) (argC (argN 7) (mret [])))))) (eApp tupD (lstC (cst (.str "BadStream")) (lstC (cst (.int 0)) (mret [])))))))) (retM (cst (.bl false))) (mret .nx)) (seqM (ifM (tNotM (truM (argV (refusedM xsn smX m__law_likeR (makeM "Stream" 4 m_Stream___init__ (argC (argV (rdV 1)) (argC (argV (rdV 2)) (argC (argV (eIx (argN 3) (cst (.int 0)))) (argC (argV (eApp tupD (mret []))) (mret [])))))) (eApp tupD (lstC (cst (.str "BadStream")) (lstC (cst (.int 0)) (mret [])))))))) (retM (cst (.bl false))) (mret .nx)) (retM (refusedM xsn smX m__law_likeR (makeK "Stream" 4 [3, 2, 1, 0] m_Stream___init__ (argC (argV (eApp lstD (mret []))) (argC (argV (eApp lstD (lstC (rdV 5) (mret [])))) (argC (argV (rdV 2)) (argC (argV (rdV 1)) (mret [])))))) (eApp tupD (lstC (cst (.str "BadStream")) (lstC (cst (.int 0)) (mret []))))))))))
def m__law_refused_here : DefM Bx := runDef 8 b__law_refused_here
theorem d__law_refused_here {P : Program} {w : World} {K : PySem.W.Frag} {mg : Str → Option Value} {base : Heap} (FD : FdL K mg "_law_refused_here" s__law_refused_here) (B : Bl K mg) (TB : TabX K mg base "_law_refused_here") (nd : ((tabsOf K).map (·.1)).Nodup) (c_Stream___init__ : Dc P w K mg base 3 "Stream" s_Stream___init__ ["base", "width", "head", "period"] m_Stream___init__) (c__law_draw : Dx P w K mg base 1 "_law_draw" s__law_draw ["box", "size"] m__law_draw) (c__law_of : Dx P w K mg base 2 "_law_of" s__law_of ["box", "menu"] m__law_of) (c__law_refused : Dr P w K mg base 13 14 "_law_refused" s__law_refused xsn smX m__law_likeR) : Dx P w K mg base 16 "_law_refused_here" s__law_refused_here ["box", "b", "k", "flow", "size"] m__law_refused_here :=
  dx_mkL ["box", "b", "k", "flow", "size", "strange", "lead", "ring"] FD sc__law_refused_here (fun _ _ _ _ _ _ us hl => match us, hl with | [_, _, _, _, _], _ => rfl) fun f cdv A outer s H E g hG hr hcd =>
    (ss_cons (s_asg 5 sc__law_refused_here.nd (e_cB hG c__law_of hr (L2N.takes_of rfl rfl rfl rfl) (a_cons (b_e (e_v 0)) (a_cons (b_e (e_lst (l_cons (e_v 4) (l_cons (e_neg e_int) (l_cons (e_add (e_v 4) e_int) (l_cons (e_sub e_int (e_v 4)) (l_cons e_int l_nil))))))) a_nil)))) (ss_cons (s_parC sc__law_refused_here.nd (e_bltT b_list (by rfl) B.list (by decide +kernel) (a_cons (b_e (e_ix (b_n 3) e_int)) a_nil)) (fun F => (e_bltT b_list (by rfl) B.list (by decide +kernel) (a_cons (b_e (e_ix (b_n 3) e_int)) a_nil)))) (ss_cons (s_if (t_cmpB (c_eq hr.units) (b_e (e_cB hG c__law_draw hr (L2N.takes_of rfl rfl rfl rfl) (a_cons (b_e (e_v 0)) (a_cons (b_e e_int) a_nil)))) (b_e e_int)) (ss_one (s_expr (e_met 6 m_insert (l_cons (e_cB hG c__law_draw hr (L2N.takes_of rfl rfl rfl rfl) (a_cons (b_e (e_v 0)) (a_cons (b_e (e_add (e_bltB b_len (by rfl) B.len (by decide +kernel) (a_cons (b_n 6) a_nil)) e_int)) a_nil))) (l_cons (e_v 5) l_nil))))) (ss_one (s_expr (e_met 7 m_insert (l_cons (e_cB hG c__law_draw hr (L2N.takes_of rfl rfl rfl rfl) (a_cons (b_e (e_v 0)) (a_cons (b_e (e_add (e_bltB b_len (by rfl) B.len (by decide +kernel) (a_cons (b_n 7) a_nil)) e_int)) a_nil))) (l_cons (e_v 5) l_nil)))))) (ss_cons (s_if (t_not (t_tru (b_e (e_refused c__law_refused hr (mkr_of hG TB nd hcd) (L2N.takes_of rfl rfl rfl rfl) (LamX.lamS_by (sc := defScope s__law_refused_here) (by decide +kernel)) (fun fv c' A outer s H E hr => (e_makeB c_Stream___init__ hr (L2N.takes_of rfl rfl rfl rfl) (a_cons (b_e (e_v 1)) (a_cons (b_e (e_v 2)) (a_cons (b_n 6) (a_cons (b_n 7) a_nil)))))) (e_tup (l_cons e_str (l_cons e_int l_nil))))))) (ss_one (s_ret e_bl)) ss_nil) (ss_cons (s_if (t_not (t_tru (b_e (e_refused c__law_refused hr (mkr_of hG TB nd hcd) (L2N.takes_of rfl rfl rfl rfl) (LamX.lamS_by (sc := defScope s__law_refused_here) (by decide +kernel)) (fun fv c' A outer s H E hr => (e_make c_Stream___init__ hr (L2N.takes_of rfl rfl rfl rfl) (a_cons (b_e (e_v 1)) (a_cons (b_e (e_v 2)) (a_cons (b_e (e_ix (b_n 3) e_int)) (a_cons (b_e (e_tup l_nil)) a_nil)))))) (e_tup (l_cons e_str (l_cons e_int l_nil))))))) (ss_one (s_ret e_bl)) ss_nil) (ss_one (s_ret (e_refused c__law_refused hr (mkr_of hG TB nd hcd) (L2N.takes_of rfl rfl rfl rfl) (LamX.lamS_by (sc := defScope s__law_refused_here) (by decide +kernel)) (fun fv c' A outer s H E hr => (e_makeK0 (ks := ["period", "head", "width", "base"]) [3, 2, 1, 0] c_Stream___init__ hr (L2N.takes_of rfl rfl rfl rfl) (fun _ _ _ _ _ _ us ws hl hw => match us, ws, hl, hw with | [_], [_, _, _, _], _, _ => rfl) (k_cons (b_e (e_lst l_nil)) (k_cons (b_e (e_lst (l_cons (e_v 5) l_nil))) (k_cons (b_e (e_v 2)) (k_cons (b_e (e_v 1)) k_nil)))))) (e_tup (l_cons e_str (l_cons e_int l_nil)))))))))))
theorem sc__law_box : FnScope ["script", "mixed", "bit"] ["script"] (defScope s__law_box) := ⟨rfl, rfl, rfl, by decide +kernel, rfl, by decide +kernel, by decide +kernel⟩
theorem d__law_box {P : Program} {w : World} {K : PySem.W.Frag} {mg : Str → Option Value} {base : Heap} (FD : Fd K mg "_law_box" s__law_box) (B : Bl K mg) : Dbox P w K mg base 1 "_law_box" s__law_box := by
  obtain ⟨f, fd, F, gl⟩ := FD
  refine ⟨f, fd, F, gl, F.ok sc__law_box (fun vs H Q E ⟨a, ns, e, _⟩ => by rw [e]; rfl) (fun cdv A outer s H vs Q E hr h => ⟨tBox K, ?_, box_run h⟩), F.bindsN fun _ _ _ _ _ _ us hl => match us, hl with | [_], _ => rfl⟩
  exact pss_cons (ps_set sc__law_box.nd (i := 1) rfl (Or.inl rfl) pe_int) (pss_cons (ps_for (passes_of rfl) rfl (pi_list (pe_slice sl_list (pe_var (i := 0) rfl (Or.inl rfl)) po_none (po_some pe_int))) (pg_name (i := 2) sc__law_box.nd rfl (Or.inl rfl))
    (pss_one (ps_set (i := 1) sc__law_box.nd rfl (Or.inl rfl) (pe_op op_mod (pe_callTy call_int1 rfl B.int (by decide +kernel) (pa_cons (pe_op op_add (pe_op op_add (pe_op op_mulW (pe_var (i := 1) rfl (Or.inl rfl)) pe_int) (pe_op op_mod (pe_callTy call_int1 rfl B.int (by decide +kernel) (pa_cons (pe_var (i := 2) rfl (Or.inl rfl)) pa_nil)) pe_int)) pe_int) pa_nil)) pe_int))))
    (pss_one (ps_ret (pe_lst (pa_cons (pe_callTy call_list_of rfl B.list (by decide +kernel) (pa_cons (pe_slice sl_list (pe_var (i := 0) rfl (Or.inl rfl)) po_none (po_some pe_int)) pa_nil)) (pa_cons pe_int (pa_cons pe_int (pa_cons (pe_var (i := 1) rfl (Or.inl rfl)) (pa_cons pe_int (pa_cons pe_int pa_nil))))))))))
theorem sc_law : FnScope ["script", "box", "b", "k", "size", "many", "flow", "lead", "ring", "told", "turn", "written", "again"] ["script"] (defScope s_law) := ⟨rfl, rfl, rfl, by decide +kernel, rfl, by decide +kernel, by decide +kernel⟩
def q_law_1t : D → M Bx Unit := (fun d => stV 10 (.v d))
def q_law_2b : M Bx Fl := seqM (asgM 11 (callB 2 m__law_longer (argC (argV (rdV 1)) (argC (argV (rdV 6)) (mret []))))) (seqM (asgM 12 (makeK "Stream" 4 [3, 2, 1, 0] m_Stream___init__ (argC (argV (eIx (argN 11) (cst (.int 1)))) (argC (argV (eAppB listF (argC (argV (eIx (argN 11) (cst (.int 0)))) (mret [])))) (argC (argV (rdV 3)) (argC (argV (rdV 2)) (mret []))))))) (ifM (tOrM (tNotM (tstB (cmpM "Stream" false m_Stream___eq__ (rdV 12) (rdV 9)))) (tOrM (tstB (cmpM "Stream" true m_Stream___eq__ (rdV 12) (rdV 9))) (tNotM (truM (argV (callP 4 m__law_same (argC (argV (rdV 12)) (argC (argV (rdV 2)) (argC (argV (rdV 3)) (argC (argV (rdV 6)) (mret []))))))))))) (retM (cst (.bl false))) (mret .nx)))
def b_law : M Bx Fl := seqM (asgT (callB 1 m__law_room (argC (argV (rdV 1)) (mret []))) (gtM 2 (gsC (fun d => stV 2 (.v d)) (gsC (fun d => stV 3 (.v d)) (fun ds => match ds with | [] => mret () | _ => mbad))))) (seqM (asgM 4 (eIfM (tstB (eBinB eqD (argN 3) (argV (cst (.int 1))))) (rdV 2) (eBin mulD (rdV 2) (rdV 2)))) (seqM (asgM 5 (eIfM (tstB (eBinB eqD (argV (callB 2 m__law_draw (argC (argV (rdV 1)) (argC (argV (cst (.int 10))) (mret []))))) (argV (cst (.int 0))))) (cst (.int 40)) (cst (.int 6)))) (seqM (asgM 6 (eApp tupD (lstC (callB 3 m__law_signs (argC (argV (rdV 1)) (argC (argV (rdV 4)) (argC (argV (callB 2 m__law_draw (argC (argV (rdV 1)) (argC (argV (rdV 5)) (mret []))))) (mret []))))) (lstC (callB 3 m__law_signs (argC (argV (rdV 1)) (argC (argV (rdV 4)) (argC (argV (eBin addD (cst (.int 1)) (callB 2 m__law_draw (argC (argV (rdV 1)) (argC (argV (rdV 5)) (mret [])))))) (mret []))))) (mret []))))) (seqM (ifM (tstB (eBinB eqD (argV (callB 2 m__law_draw (argC (argV (rdV 1)) (argC (argV (cst (.int 3))) (mret []))))) (argV (cst (.int 0))))) (asgM 6 (eApp tupD (lstC (eBin addD (eIx (argN 6) (cst (.int 0))) (eSl (argV (eIx (argN 6) (cst (.int 1)))) (partM (callB 2 m__law_draw (argC (argV (rdV 1)) (argC (argV (eAppB lenF (argC (argV (eIx (argN 6) (cst (.int 1)))) (mret [])))) (mret []))))) (mret none))) (lstC (eBin mulTD (eIx (argN 6) (cst (.int 1))) (eBin addD (cst (.int 1)) (callB 2 m__law_draw (argC (argV (rdV 1)) (argC (argV (cst (.int 3))) (mret [])))))) (mret []))))) (mret .nx)) (seqM (parO 7 8 (eAppB listF (argC (argV (eIx (argN 6) (cst (.int 0)))) (mret []))) (eAppB listF (argC (argV (eIx (argN 6) (cst (.int 1)))) (mret [])))) (seqM (asgM 9 (makeB "Stream" 4 m_Stream___init__ (argC (argV (rdV 2)) (argC (argV (rdV 3)) (argC (argN 7) (argC (argN 8) (mret []))))))) (seqM (ifM (tNotM (truM (argV (callPL (m__law_like 6) 7 8 (eApp lstD (lstC (eAppB listF (argC (argV (eIx (argN 6) (cst (.int 0)))) (mret []))) (lstC (eAppB listF (argC (argV (eIx (argN 6) (cst (.int 1)))) (mret []))) (mret [])))))))) (retM (cst (.bl false))) (mret .nx)) (seqM (dropM (metM 7 appendF (lstC (cst (.int 0)) (mret [])))) (seqM (sixM 8 (eBin modD (eAppB intF (argC (argV (eBin addD (eIx (argN 8) (cst (.int 0))) (cst (.int 1)))) (mret []))) (rdV 4)) (cst (.int 0))) (seqM (ifM (tNotM (truM (argV (callP 4 m__law_same (argC (argV (rdV 9)) (argC (argV (rdV 2)) (argC (argV (rdV 3)) (argC (argV (rdV 6)) (mret []))))))))) (retM (cst (.bl false))) (mret .nx)) (seqM (forM (rngM1 (lstC (cst (.int 3)) (mret []))) q_law_1t q_law_2b) (seqM (ifM (tOrM (tNotM (truM (argV (callB 3 m__law_letters_asked (argC (argV (rdV 1)) (argC (argV (rdV 9)) (argC (argV (rdV 6)) (mret [])))))))) (tNotM (truM (argV (callB 6 m__law_parts_asked (argC (argV (rdV 1)) (argC (argV (rdV 2)) (argC (argV (rdV 3)) (argC (argV (rdV 9)) (argC (argV (rdV 6)) (argC (argV (rdV 4)) (mret [])))))))))))) (retM (cst (.bl false))) (mret .nx)) (retM (eAndM (callB 6 m__law_unlike_asked (argC (argV (rdV 1)) (argC (argV (rdV 2)) (argC (argV (rdV 3)) (argC (argV (rdV 9)) (argC (argV (rdV 6)) (argC (argV (rdV 4)) (mret [])))))))) (eAndM (callB 5 m__law_refused_here (argC (argV (rdV 1)) (argC (argV (rdV 2)) (argC (argV (rdV 3)) (argC (argV (rdV 6)) (argC (argV (rdV 4)) (mret []))))))) (callP 4 m__law_same (argC (argV (rdV 9)) (argC (argV (rdV 2)) (argC (argV (rdV 3)) (argC (argV (rdV 6)) (mret [])))))))))))))))))))))
theorem d_law {P : Program} {w : World} {K : PySem.W.Frag} {mg : Str → Option Value} {base : Heap} {f : Addr} {fd : FuncData} (F : FunD K "law" "law" (defArgs s_law) (defBody s_law) (defScope s_law) [] [] f fd) (B : Bl K mg) (c_box : Dbox P w K mg base 1 "_law_box" s__law_box) (c_Stream___eq__ : Dm P w K mg base 1 "Stream" "__eq__" s_Stream___eq__ ["other"] m_Stream___eq__) (c_Stream___init__ : Dc P w K mg base 3 "Stream" s_Stream___init__ ["base", "width", "head", "period"] m_Stream___init__) (c__law_draw : Dx P w K mg base 1 "_law_draw" s__law_draw ["box", "size"] m__law_draw) (c__law_like : Dx P w K mg base 6 "_law_like" s__law_like ["told", "due"] (m__law_like 6)) (c__law_signs : Dx P w K mg base 2 "_law_signs" s__law_signs ["box", "size", "many"] m__law_signs) (c__law_longer : Dx P w K mg base 2 "_law_longer" s__law_longer ["box", "flow"] m__law_longer) (c__law_room : Dx P w K mg base 2 "_law_room" s__law_room ["box"] m__law_room) (c__law_same : Dx P w K mg base 7 "_law_same" s__law_same ["told", "b", "k", "flow"] m__law_same) (c__law_letters_asked : Dx P w K mg base 7 "_law_letters_asked" s__law_letters_asked ["box", "told", "flow"] m__law_letters_asked) (c__law_parts_asked : Dx P w K mg base 8 "_law_parts_asked" s__law_parts_asked ["box", "b", "k", "told", "flow", "size"] m__law_parts_asked) (c__law_unlike_asked : Dx P w K mg base 8 "_law_unlike_asked" s__law_unlike_asked ["box", "b", "k", "told", "flow", "size"] m__law_unlike_asked) (c__law_refused_here : Dx P w K mg base 16 "_law_refused_here" s__law_refused_here ["box", "b", "k", "flow", "size"] m__law_refused_here) (hm : ∀ ns : List Int, ns.length ≤ 63 → lawR 13 b_law ns) : FnOk P w K mg base (L2N.CX P w) 17 f fd ["script"] (spLaw K) :=
  F.ok sc_law (fun vs H Q E ⟨a, ns, e, _⟩ => by rw [e]; rfl) (fun cdv A outer s H vs Q E hr h => ⟨_, pss_cons (ps_box (W := fun c d _ H => E c d H) (i := 1) (j := 0) c_box hr (L2N.takes_of rfl rfl rfl rfl) sc_law.nd) (ss_lw (W := fun c d _ H => E c d H) fun g hG =>
    (ss_cons (s_asgT (e_cB hG c__law_room hr (L2N.takes_of rfl rfl rfl rfl) (a_cons (b_e (e_v 1)) a_nil)) (g_tup rfl (gs_cons (g_name 2 sc_law.nd) (gs_cons (g_name 3 sc_law.nd) gs_nil)))) (ss_cons (s_asg 4 sc_law.nd (e_if (t_cmpB (c_eq hr.units) (b_n 3) (b_e e_int)) (e_v 2) (e_mul (e_v 2) (e_v 2)))) (ss_cons (s_asg 5 sc_law.nd (e_if (t_cmpB (c_eq hr.units) (b_e (e_cB hG c__law_draw hr (L2N.takes_of rfl rfl rfl rfl) (a_cons (b_e (e_v 1)) (a_cons (b_e e_int) a_nil)))) (b_e e_int)) e_int e_int)) (ss_cons (s_asg 6 sc_law.nd (e_tup (l_cons (e_cB hG c__law_signs hr (L2N.takes_of rfl rfl rfl rfl) (a_cons (b_e (e_v 1)) (a_cons (b_e (e_v 4)) (a_cons (b_e (e_cB hG c__law_draw hr (L2N.takes_of rfl rfl rfl rfl) (a_cons (b_e (e_v 1)) (a_cons (b_e (e_v 5)) a_nil)))) a_nil)))) (l_cons (e_cB hG c__law_signs hr (L2N.takes_of rfl rfl rfl rfl) (a_cons (b_e (e_v 1)) (a_cons (b_e (e_v 4)) (a_cons (b_e (e_add e_int (e_cB hG c__law_draw hr (L2N.takes_of rfl rfl rfl rfl) (a_cons (b_e (e_v 1)) (a_cons (b_e (e_v 5)) a_nil))))) a_nil)))) l_nil)))) (ss_cons (s_if (t_cmpB (c_eq hr.units) (b_e (e_cB hG c__law_draw hr (L2N.takes_of rfl rfl rfl rfl) (a_cons (b_e (e_v 1)) (a_cons (b_e e_int) a_nil)))) (b_e e_int)) (ss_one (s_asg 6 sc_law.nd (e_tup (l_cons (e_add (e_ix (b_n 6) e_int) (e_sl (b_e (e_ix (b_n 6) e_int)) (p_some (e_cB hG c__law_draw hr (L2N.takes_of rfl rfl rfl rfl) (a_cons (b_e (e_v 1)) (a_cons (b_e (e_bltB b_len (by rfl) B.len (by decide +kernel) (a_cons (b_e (e_ix (b_n 6) e_int)) a_nil))) a_nil)))) p_none)) (l_cons (e_mulT (e_ix (b_n 6) e_int) (e_add e_int (e_cB hG c__law_draw hr (L2N.takes_of rfl rfl rfl rfl) (a_cons (b_e (e_v 1)) (a_cons (b_e e_int) a_nil))))) l_nil))))) ss_nil) (ss_cons (s_parO sc_law.nd (e_bltT b_list (by rfl) B.list (by decide +kernel) (a_cons (b_e (e_ix (b_n 6) e_int)) a_nil)) (fun F => (e_bltT b_list (by rfl) B.list (by decide +kernel) (a_cons (b_e (e_ix (b_n 6) e_int)) a_nil)))) (ss_cons (s_asg 9 sc_law.nd (e_makeB c_Stream___init__ hr (L2N.takes_of rfl rfl rfl rfl) (a_cons (b_e (e_v 2)) (a_cons (b_e (e_v 3)) (a_cons (b_n 7) (a_cons (b_n 8) a_nil)))))) (ss_cons (s_if (t_not (t_tru (b_e (e_cPL (i := 7) (j := 8) c__law_like hr (L2N.takes_of rfl rfl rfl rfl) (fun F => (e_lst (l_cons (e_bltT b_list (by rfl) B.list (by decide +kernel) (a_cons (b_e (e_ix (b_n 6) e_int)) a_nil)) (l_cons (e_bltT b_list (by rfl) B.list (by decide +kernel) (a_cons (b_e (e_ix (b_n 6) e_int)) a_nil)) l_nil)))))))) (ss_one (s_ret e_bl)) ss_nil) (ss_cons (s_expr (e_met 7 m_append (l_cons e_int l_nil))) (ss_cons (s_six 8 (e_mod (e_bltT b_int (by rfl) B.int (by decide +kernel) (a_cons (b_e (e_add (e_ix (b_n 8) e_int) e_int)) a_nil)) (e_v 4)) e_int) (ss_cons (s_if (t_not (t_tru (b_e (e_cP c__law_same hr (L2N.takes_of rfl rfl rfl rfl) (a_cons (b_e (e_v 9)) (a_cons (b_e (e_v 2)) (a_cons (b_e (e_v 3)) (a_cons (b_e (e_v 6)) a_nil)))))))) (ss_one (s_ret e_bl)) ss_nil) (ss_cons (s_for (passes_of rfl) rfl (i_range1 B.range (l_cons e_int l_nil)) (g_name 10 sc_law.nd) (ss_cons (s_asg 11 sc_law.nd (e_cB hG c__law_longer hr (L2N.takes_of rfl rfl rfl rfl) (a_cons (b_e (e_v 1)) (a_cons (b_e (e_v 6)) a_nil)))) (ss_cons (s_asg 12 sc_law.nd (e_makeK0 (ks := ["period", "head", "width", "base"]) [3, 2, 1, 0] c_Stream___init__ hr (L2N.takes_of rfl rfl rfl rfl) (fun _ _ _ _ _ _ us ws hl hw => match us, ws, hl, hw with | [_], [_, _, _, _], _, _ => rfl) (k_cons (b_e (e_ix (b_n 11) e_int)) (k_cons (b_e (e_bltT b_list (by rfl) B.list (by decide +kernel) (a_cons (b_e (e_ix (b_n 11) e_int)) a_nil))) (k_cons (b_e (e_v 3)) (k_cons (b_e (e_v 2)) k_nil)))))) (ss_one (s_if (t_w (w_or (t_not (t_eqA c_Stream___eq__ hr (e_v 12) (e_v 9))) (w_or (t_neA c_Stream___eq__ B.OP_Stream hr (e_v 12) (e_v 9)) (w_or1 (t_not (t_tru (b_e (e_cP c__law_same hr (L2N.takes_of rfl rfl rfl rfl) (a_cons (b_e (e_v 12)) (a_cons (b_e (e_v 2)) (a_cons (b_e (e_v 3)) (a_cons (b_e (e_v 6)) a_nil)))))))))))) (ss_one (s_ret e_bl)) ss_nil))))) (ss_cons (s_if (t_w (w_or (t_not (t_tru (b_e (e_cB hG c__law_letters_asked hr (L2N.takes_of rfl rfl rfl rfl) (a_cons (b_e (e_v 1)) (a_cons (b_e (e_v 9)) (a_cons (b_e (e_v 6)) a_nil))))))) (w_or1 (t_not (t_tru (b_e (e_cB hG c__law_parts_asked hr (L2N.takes_of rfl rfl rfl rfl) (a_cons (b_e (e_v 1)) (a_cons (b_e (e_v 2)) (a_cons (b_e (e_v 3)) (a_cons (b_e (e_v 9)) (a_cons (b_e (e_v 6)) (a_cons (b_e (e_v 4)) a_nil))))))))))))) (ss_one (s_ret e_bl)) ss_nil) (ss_one (s_ret (e_and (e_cB hG c__law_unlike_asked hr (L2N.takes_of rfl rfl rfl rfl) (a_cons (b_e (e_v 1)) (a_cons (b_e (e_v 2)) (a_cons (b_e (e_v 3)) (a_cons (b_e (e_v 9)) (a_cons (b_e (e_v 6)) (a_cons (b_e (e_v 4)) a_nil))))))) (e_and (e_cB hG c__law_refused_here hr (L2N.takes_of rfl rfl rfl rfl) (a_cons (b_e (e_v 1)) (a_cons (b_e (e_v 2)) (a_cons (b_e (e_v 3)) (a_cons (b_e (e_v 6)) (a_cons (b_e (e_v 4)) a_nil)))))) (e_one (e_cP c__law_same hr (L2N.takes_of rfl rfl rfl rfl) (a_cons (b_e (e_v 9)) (a_cons (b_e (e_v 2)) (a_cons (b_e (e_v 3)) (a_cons (b_e (e_v 6)) a_nil)))))))))))))))))))))))), law_run (N := ["script", "box", "b", "k", "size", "many", "flow", "lead", "ring", "told", "turn", "written", "again"]) (by decide) hm h⟩)
end K03

set_option Elab.async false
set_option linter.all false
set_option maxRecDepth 100000
namespace DL
open PySem PySem.Spec L2
/-! ### mirrors are worked out: one rule a form, at a state that is there -/
def bnd {σ α γ : Type} (o : Out σ α) (k : α → σ → Out σ γ) : Out σ γ := match o with
  | .ok a s => k a s
  | .exc x s => .exc x s
  | .bad => .bad
def optO {σ α : Type} (o : Option α) (s : σ) : Out σ α := match o with
  | some a => .ok a s
  | none => .bad
section
variable {σ α γ β : Type} {a : α} {s : S β} {k : α → σ → Out σ γ} {t : σ} {x : Exc}
@[simp] theorem bnd_ok : bnd (.ok a t) k = k a t := id rfl
@[simp] theorem bnd_exc : bnd (.exc x t : Out σ α) k = .exc x t := id rfl
@[simp] theorem bnd_bad : bnd (.bad : Out σ α) k = .bad := id rfl
@[simp] theorem optO_some : optO (some a) t = .ok a t := id rfl
@[simp] theorem optO_none : (optO (none : Option α) t) = .bad := id rfl
@[simp] theorem mret_ap : (mret a : M β α) s = .ok a s := id rfl
@[simp] theorem mbad_ap : (mbad : M β α) s = .bad := id rfl
@[simp] theorem mbind_ap {γ : Type} {m : M β α} {k : α → M β γ} : mbind m k s = bnd (m s) k := by
  unfold mbind bnd
  cases m s <;> rfl
@[simp] theorem mIte_t {m n : M β α} : mIte true m n s = m s := id rfl
@[simp] theorem mIte_f {m n : M β α} : mIte false m n s = n s := id rfl
@[simp] theorem opt_ap {o : Option α} : (opt o : M β α) s = optO o s := by
  unfold opt optO
  cases o <;> rfl
@[simp] theorem cst_ap {d : D} : (cst d : M β RV) s = .ok (.v d) s := id rfl
@[simp] theorem rv_v {d : D} : (RV.v d).d = d := id rfl
@[simp] theorem rv_o {ds : List D} : (RV.o ds).d = .lst ds := id rfl
@[simp] theorem sv_v {d : D} : sv (.v d) = .v d := id rfl
@[simp] theorem sv_o {ds : List D} : sv (.o ds) = .o ds := id rfl
def rdO {β : Type} (i : Nat) (sl : List Slot) (b : β) : Option Slot → Out (S β) RV
  | some (.v d) => .ok (.v d) ⟨sl, b⟩
  | some (.o ds) => .ok (.v (.lst ds)) ⟨sl.set i (.v (.lst ds)), b⟩
  | _ => .bad
@[simp] theorem rdO_v {i : Nat} {sl : List Slot} {b : β} {d : D} : rdO i sl b (some (.v d)) = .ok (.v d) ⟨sl, b⟩ := id rfl
@[simp] theorem rdO_o {i : Nat} {sl : List Slot} {b : β} {ds : List D} : rdO i sl b (some (.o ds)) = .ok (.v (.lst ds)) ⟨sl.set i (.v (.lst ds)), b⟩ := id rfl
@[simp] theorem rdV_ap {i : Nat} {sl : List Slot} {b : β} : rdV i ⟨sl, b⟩ = rdO i sl b sl[i]? := by
  show (match sl[i]? with | some (.v d) => _ | some (.o ds) => _ | _ => _) = _
  cases sl[i]? with
  | none => rfl
  | some k => cases k <;> rfl
end
section
variable {β : Type} {s : S β} {m ma mb mc : M β RV} {na nb : M β Arg} {ms : M β (List Arg)} {ls : M β (List D)} {c c1 c2 : M β Bool} {f f' : D → D → Option RV} {u : D → Option RV} {F : List D → Option RV} {sl : List Slot} {b : β} {fl fl' : M β Fl} {mi : M β (List D)} {t : D → M β Unit} {ts : List D → M β Unit} {i : Nat} {g g' : GM β}
@[simp] theorem eBin_ap : eBin f ma mb s = mbind ma (fun x => mbind mb fun y => opt (f x.d y.d)) s := id rfl
@[simp] theorem eUn_ap : eUn u ma s = mbind ma (fun x => opt (u x.d)) s := id rfl
@[simp] theorem eApp_ap : eApp F ls s = mbind ls (fun x => opt (F x)) s := id rfl
@[simp] theorem tstB_ap : tstB m s = mbind m (fun r => opt (asB r.d)) s := id rfl
@[simp] theorem argV_ap : argV m s = mbind m (fun r => mret (.v r.d)) s := id rfl
@[simp] theorem argC_ap : argC na ms s = mbind na (fun a => mbind ms fun as => mret (a :: as)) s := id rfl
@[simp] theorem lstC_ap : lstC m ls s = mbind m (fun r => mbind ls fun ds => mret (r.d :: ds)) s := id rfl
def naO (i : Nat) (s : S β) : Option D → Out (S β) Arg
  | some _ => .ok (.b i) s
  | none => .bad
@[simp] theorem naO_some {i : Nat} {d : D} : naO i s (some d) = .ok (.b i) s := id rfl
@[simp] theorem argN_ap {i : Nat} : argN i ⟨sl, b⟩ = naO i ⟨sl, b⟩ ((sl[i]?).bind slotC) := by
  show (match (sl[i]?).bind slotC with | some _ => _ | none => _) = _
  cases (sl[i]?).bind slotC <;> rfl
@[simp] theorem slotC_v {d : D} : slotC (.v d) = some d := id rfl
@[simp] theorem slotC_o {ds : List D} : slotC (.o ds) = some (.lst ds) := id rfl
@[simp] theorem resL_nil : resL sl [] = some [] := id rfl
@[simp] theorem resL_v {d : D} {as : List Arg} : resL sl (.v d :: as) = (resL sl as).map (d :: ·) := id rfl
def cons2 : Option D → Option (List D) → Option (List D)
  | some d, some ds => some (d :: ds)
  | _, _ => none
@[simp] theorem cons2_some {d : D} {ds : List D} : cons2 (some d) (some ds) = some (d :: ds) := id rfl
@[simp] theorem resL_b {i : Nat} {as : List Arg} : resL sl (.b i :: as) = cons2 ((sl[i]?).bind slotC) (resL sl as) := by
  show (match (sl[i]?).bind slotC, resL sl as with | some d, some ds => _ | _, _ => _) = _
  cases (sl[i]?).bind slotC <;> cases resL sl as <;> rfl
@[simp] theorem rsl_ap {as : List Arg} : (rsl as : M β (List D)) ⟨sl, b⟩ = optO (resL sl as) ⟨sl, b⟩ := by
  show (match resL sl as with | some ds => _ | none => _) = _
  cases resL sl as <;> rfl
@[simp] theorem noB_nil : noB [] = true := id rfl
@[simp] theorem noB_v {d : D} {as : List Arg} : noB (.v d :: as) = noB as := by simp [noB, isV]
@[simp] theorem noB_b {i : Nat} {as : List Arg} : noB (.b i :: as) = false := by simp [noB, isV]
@[simp] theorem scalR_v {d : D} : scalR (.v d) = scalD d := id rfl
@[simp] theorem scalR_o {ds : List D} : scalR (.o ds) = false := id rfl
@[simp] theorem scalD_int {i : Int} : scalD (.int i) = true := id rfl
@[simp] theorem scalD_bl {i : Bool} : scalD (.bl i) = true := id rfl
@[simp] theorem scalD_non : scalD .non = true := id rfl
@[simp] theorem scalD_str {i : Str} : scalD (.str i) = true := id rfl
@[simp] theorem okR_def {as : List Arg} {r : RV} : okR as r = (noB as || scalR r) := id rfl
/-- what an operation let through -/
def filR (as : List Arg) (o : Option RV) : Option RV := o.filter (okR as)
@[simp] theorem filR_some {as : List Arg} {r : RV} : filR as (some r) = if okR as r then some r else none := by simp [filR, Option.filter]
@[simp] theorem eBinB_ap : eBinB f na nb s = mbind na (fun x => mbind nb fun y => mbind (rsl [x, y]) fun ds => opt (filR [x, y] (ap2 f ds))) s := id rfl
@[simp] theorem eAppB_ap : eAppB F ms s = mbind ms (fun as => mbind (rsl as) fun ds => opt (filR as (F ds))) s := id rfl
@[simp] theorem ap2_two {d e : D} : ap2 f [d, e] = f d e := id rfl
def trO : List D → Option Bool
  | [d] => truD d
  | _ => none
@[simp] theorem trO_one {d : D} : trO [d] = truD d := id rfl
@[simp] theorem truM_ap : truM na s = mbind na (fun x => mbind (rsl [x]) fun ds => opt (trO ds)) s := id rfl
@[simp] theorem tAndM_ap : tAndM c1 c2 s = mbind c1 (fun k => mIte k c2 (mret false)) s := id rfl
@[simp] theorem tOrM_ap : tOrM c1 c2 s = mbind c1 (fun k => mIte k (mret true) c2) s := id rfl
@[simp] theorem tNotM_ap : tNotM c s = mbind c (fun k => mret (!k)) s := id rfl
@[simp] theorem eAndM_ap : eAndM ma mb s = mbind ma (fun r => mbind (opt (asB r.d)) fun k => mIte k mb (mret (.v (.bl false)))) s := id rfl
@[simp] theorem eOrM_ap : eOrM ma mb s = mbind ma (fun r => mbind (opt (asB r.d)) fun k => mIte k (mret (.v (.bl true))) mb) s := id rfl
@[simp] theorem eNotM_ap : eNotM ma s = mbind ma (fun r => mbind (opt (asB r.d)) fun k => mret (.v (.bl (!k)))) s := id rfl
@[simp] theorem eIfM_ap : eIfM c ma mb s = mbind c (fun k => mIte k ma mb) s := id rfl
@[simp] theorem eChain_ap : eChain f f' ma mb mc s = mbind ma (fun x => mbind mb fun y => mbind (opt (f x.d y.d)) fun z => mbind (opt (asB z.d)) fun k => mIte k (mbind mc fun w => opt (f' y.d w.d)) (mret (.v (.bl false)))) s := id rfl
def ixO (y : D) : List D → Option RV
  | [d] => ixD d y
  | _ => none
@[simp] theorem ixO_one {y d : D} : ixO y [d] = ixD d y := id rfl
@[simp] theorem eIx_ap : eIx na m s = mbind na (fun x => mbind m fun y => mbind (rsl [x]) fun ds => opt (ixO y.d ds)) s := id rfl
@[simp] theorem partM_ap : partM m s = mbind m (fun r => mbind (opt (asI r.d)) fun i => mret (some i)) s := id rfl
def slO (l h : Option Int) : List D → Option RV
  | [d] => slD d l h
  | _ => none
@[simp] theorem slO_one {l h : Option Int} {d : D} : slO l h [d] = slD d l h := id rfl
@[simp] theorem eSl_ap {lo hi : M β (Option Int)} : eSl na lo hi s = mbind na (fun x => mbind lo fun l => mbind hi fun h => mbind (rsl [x]) fun ds => opt (slO l h ds)) s := id rfl
def hdO (T : String) (ds : List D) : Option RV := ds.head?.bind (isiD T)
@[simp] theorem hdO_one {T : String} {d : D} : hdO T [d] = isiD T d := id rfl
@[simp] theorem isiM_ap {T : String} : isiM T na s = mbind na (fun x => mbind (rsl [x]) fun ds => opt (hdO T ds)) s := id rfl
def itH (ds : List D) : Option (List D) := ds.head?.bind itD
@[simp] theorem itH_one {d : D} : itH [d] = itD d := id rfl
@[simp] theorem strC_ap : strC na ls s = mbind na (fun a => mbind (rsl [a]) fun ds => mbind (opt (itH ds)) fun es => mbind ls fun fs => mret (es ++ fs)) s := id rfl
/-! defs -/
def finO : Out (S β) Fl → Out β RV
  | .ok .nx s => .ok (.v .non) s.bx
  | .ok (.rt r) s => .ok r s.bx
  | .exc x s => .exc x s.bx
  | _ => .bad
@[simp] theorem finO_nx : finO (.ok .nx s) = .ok (.v .non) s.bx := id rfl
@[simp] theorem finO_rt {r : RV} : finO (.ok (.rt r) s) = .ok r s.bx := id rfl
@[simp] theorem runDef_ap {n : Nat} {mb : M β Fl} {ds : List D} : runDef n mb ds b = finO (mb ⟨ds.map Slot.v ++ List.replicate (n - ds.length) Slot.no, b⟩) := id rfl
def finG : Out (S Unit) (Fl × List D) → Option (List D)
  | .ok (.nx, out) _ => some out
  | .ok (.rt (.v .non), out) _ => some out
  | _ => none
@[simp] theorem finG_nx {out : List D} {s : S Unit} : finG (.ok (.nx, out) s) = some out := id rfl
@[simp] theorem finG_rt {out : List D} {s : S Unit} : finG (.ok (.rt (.v .non), out) s) = some out := id rfl
@[simp] theorem runGen_ap {n : Nat} {mb : GM Unit} {ds : List D} : runGen n mb ds = finG (mb [] ⟨ds.map Slot.v ++ List.replicate (n - ds.length) Slot.no, ()⟩) := by
  unfold runGen finG
  rcases mb [] ⟨ds.map Slot.v ++ List.replicate (n - ds.length) Slot.no, ()⟩ with ⟨⟨f, out⟩, s⟩ | _ | _
  · cases f with
    | rt r => cases r with
      | v d => cases d <;> rfl
      | o _ => rfl
    | _ => rfl
  · rfl
  · rfl
/-! calls -/
def outO (as : List Arg) (o : Out Unit RV) (s : S β) : Out (S β) RV := outP as o s
@[simp] theorem outO_ok {as : List Arg} {r : RV} : outO as (.ok r ()) s = if okR as r then .ok r s else .bad := by
  simp only [outO, outP]
  cases okR as r <;> rfl
@[simp] theorem callP_ap {n : Nat} {md : DefM Unit} : callP n md ms s = mbind ms (fun as => mIte (as.length == n) (mbind (rsl as) fun ds s => outO as (md ds ()) s) mbad) s := id rfl
def outC (o : Out β RV) (s : S β) : Out (S β) RV := outB o s
@[simp] theorem outC_ok {r : RV} {b' : β} : outC (.ok r b') ⟨sl, b⟩ = .ok r ⟨sl, b'⟩ := id rfl
@[simp] theorem callB_ap {n : Nat} {md : DefM β} : callB n md ms s = mbind ms (fun as => mIte (as.length == n && noB as) (mbind (rsl as) fun ds s => outC (md ds s.bx) s) mbad) s := id rfl
@[simp] theorem callG_ap {n : Nat} {md : DefG} : callG n md ms s = mbind ms (fun as => mIte (as.length == n && noB as) (mbind (rsl as) fun ds => mbind (opt (md ds)) fun out => mret (.o out)) mbad) s := id rfl
@[simp] theorem dflM_ap {dfl : List D} : dflM dfl ms s = mbind ms (fun as => mret (as ++ dfl.map Arg.v)) s := id rfl
@[simp] theorem kwA_ap {n nk : Nat} {pi : List Nat} {mk : M β (List Arg)} : kwA n nk pi ms mk s = mbind ms (fun as => mbind mk fun bs => mIte (as.length == n && bs.length == nk) (mret (perm pi (as ++ bs))) mbad) s := id rfl
/-! statements -/
@[simp] theorem noX_ok {α : Type} {m : M β α} {a : α} {s' : S β} (h : m s = .ok a s') : noX m s = .ok a s' := by simp [noX, h]
def nxO {α : Type} : Out (S β) α → Out (S β) α
  | .ok a s => .ok a s
  | _ => .bad
@[simp] theorem nxO_ok {α : Type} {a : α} : nxO (.ok a s) = .ok a s := id rfl
theorem noX_ap {α : Type} {m : M β α} : noX m s = nxO (m s) := by
  unfold noX nxO
  cases m s <;> rfl
@[simp] theorem seqM_ap : seqM fl fl' s = mbind fl (thenM fl') s := id rfl
@[simp] theorem thenM_nx : thenM fl .nx = fl := id rfl
@[simp] theorem thenM_rt {r : RV} : thenM fl (.rt r) = mret (.rt r) := id rfl
@[simp] theorem thenM_bk : thenM fl .bk = mret .bk := id rfl
@[simp] theorem thenM_ct : thenM fl .ct = mret .ct := id rfl
@[simp] theorem dropM_ap : dropM m s = mbind m (fun _ => mret .nx) s := id rfl
@[simp] theorem retM_ap : retM m s = mbind m (fun r => mret (.rt r)) s := id rfl
def rnO (s : S β) : Option Slot → Out (S β) Fl
  | some (.v d) => .ok (.rt (.v d)) s
  | some (.o ds) => .ok (.rt (.o ds)) s
  | _ => .bad
@[simp] theorem rnO_v {d : D} : rnO s (some (.v d)) = .ok (.rt (.v d)) s := id rfl
@[simp] theorem rnO_o {ds : List D} : rnO s (some (.o ds)) = .ok (.rt (.o ds)) s := id rfl
@[simp] theorem retN_ap : retN i ⟨sl, b⟩ = rnO ⟨sl, b⟩ sl[i]? := by
  show (match sl[i]? with | some (.v d) => _ | some (.o ds) => _ | _ => _) = _
  cases sl[i]? with
  | none => rfl
  | some k => cases k <;> rfl
@[simp] theorem asgM_ap : asgM i m s = mbind m (fun r => mbind (stV i r) fun _ => mret .nx) s := id rfl
@[simp] theorem asgT_ap : asgT m t s = mbind m (fun r => mbind (noX (t r.d)) fun _ => mret .nx) s := id rfl
@[simp] theorem ifM_ap : ifM c fl fl' s = mbind c (fun k => mIte k fl fl') s := id rfl
def stO (i : Nat) (r : RV) (sl : List Slot) (b : β) : Option Slot → Out (S β) Unit
  | some _ => .ok () ⟨sl.set i (sv r), b⟩
  | none => .bad
@[simp] theorem stO_some {r : RV} {k : Slot} : stO i r sl b (some k) = .ok () ⟨sl.set i (sv r), b⟩ := id rfl
@[simp] theorem stV_ap {r : RV} : stV i r ⟨sl, b⟩ = stO i r sl b sl[i]? := by
  show (match sl[i]? with | some _ => _ | none => _) = _
  cases sl[i]? <;> rfl
@[simp] theorem gsC_cons {d : D} {ds : List D} : gsC t ts (d :: ds) = mbind (t d) fun _ => ts ds := id rfl
@[simp] theorem gtM_tup {n : Nat} {ds : List D} : gtM n ts (.tup ds) s = if ds.length = n then ts ds s else .bad := by
  show (if ds.length = n then ts ds else mbad) s = _
  split <;> rfl
def parK (is : List Nat) (ds : List D) : M β Fl := match is, ds with
  | [i, j], [d, e] => mbind (stV i (.v d)) fun _ => mbind (stV j (.v e)) fun _ => mret .nx
  | [i, j, k], [d, e, h] => mbind (stV i (.v d)) fun _ => mbind (stV j (.v e)) fun _ => mbind (stV k (.v h)) fun _ => mret .nx
  | _, _ => mbad
@[simp] theorem parM_ap {is : List Nat} : parM is ls s = mbind ls (parK is) s := id rfl
@[simp] theorem parK_2 {i j : Nat} {d e : D} : (parK [i, j] [d, e] : M β Fl) = mbind (stV i (.v d)) fun _ => mbind (stV j (.v e)) fun _ => mret .nx := id rfl
@[simp] theorem parK_3 {i j k : Nat} {d e h : D} : (parK [i, j, k] [d, e, h] : M β Fl) = mbind (stV i (.v d)) fun _ => mbind (stV j (.v e)) fun _ => mbind (stV k (.v h)) fun _ => mret .nx := id rfl
@[simp] theorem parO_ap {i j : Nat} : parO i j ma mb s = mbind ma (fun r => mbind (noX mb) fun q => mbind (stV i r) fun _ => mbind (stV j q) fun _ => mret .nx) s := id rfl
def agO (i : Nat) (fo : D → D → Option RV) (m : M β RV) (s : S β) : Option Slot → Out (S β) Fl
  | some (.v d) => mbind m (fun y => mbind (opt (fo d y.d)) fun r => mbind (stV i r) fun _ => mret .nx) s
  | _ => .bad
@[simp] theorem agO_v {fo : D → D → Option RV} {d : D} : agO i fo m s (some (.v d)) = mbind m (fun y => mbind (opt (fo d y.d)) fun r => mbind (stV i r) fun _ => mret .nx) s := id rfl
@[simp] theorem augM_ap {fo : D → D → Option RV} : augM i fo m ⟨sl, b⟩ = agO i fo m ⟨sl, b⟩ sl[i]? := by
  show (match sl[i]? with | some (.v d) => _ | _ => _) = _
  cases sl[i]? with
  | none => rfl
  | some k => cases k <;> rfl
def owO (s : S β) : Option Slot → Out (S β) (List D)
  | some (.o ds) => .ok ds s
  | _ => .bad
@[simp] theorem owO_o {ds : List D} : owO s (some (.o ds)) = .ok ds s := id rfl
@[simp] theorem ownAt_ap : (ownAt i : M β (List D)) ⟨sl, b⟩ = owO ⟨sl, b⟩ sl[i]? := by
  show (match sl[i]? with | some (.o ds) => _ | _ => _) = _
  cases sl[i]? with
  | none => rfl
  | some k => cases k <;> rfl
@[simp] theorem putO_ap {ds : List D} : (putO i ds : M β Unit) ⟨sl, b⟩ = .ok () ⟨sl.set i (.o ds), b⟩ := id rfl
@[simp] theorem metM_ap {f : List D → List D → Option (D × List D)} : metM i f ls s = mbind (ownAt i) (fun _ => mbind ls fun as => mbind (ownAt i) fun ds => mbind (opt (f ds as)) fun q => mbind (putO i q.2) fun _ => mret (.v q.1)) s := id rfl
@[simp] theorem sixM_ap : sixM i ma mb s = mbind ma (fun r => mbind (ownAt i) fun _ => mbind mb fun y => mbind (ownAt i) fun ds => mbind (opt ((asI y.d).bind fun k => ixN ds.length k)) fun j => mbind (putO i (ds.set j r.d)) fun _ => mret .nx) s := id rfl
@[simp] theorem aixM_ap {fo : D → D → Option RV} : aixM i fo ma mb s = mbind (ownAt i) (fun _ => mbind ma fun y => mbind (ownAt i) fun ds => mbind (opt ((asI y.d).bind fun k => atI ds k)) fun d => mbind mb fun z => mbind (opt ((fo d z.d).filter scalR)) fun r =>
  mbind (ownAt i) fun ds' => mbind (opt ((asI y.d).bind fun k => ixN ds'.length k)) fun j => mbind (putO i (ds'.set j r.d)) fun _ => mret .nx) s := id rfl
@[simp] theorem forM_ap : forM mi t fl s = mbind mi (frM t fl) s := id rfl
@[simp] theorem itM_ap : itM m s = mbind m (fun r => opt (itD r.d)) s := id rfl
@[simp] theorem rngM1_ap : rngM1 ls s = mbind ls (fun ds => opt (rngD1 ds)) s := id rfl
@[simp] theorem rngM2_ap : rngM2 ls s = mbind ls (fun ds => opt (rngD2 ds)) s := id rfl
@[simp] theorem rngM3_ap : rngM3 ls s = mbind ls (fun ds => opt (rngD3 ds)) s := id rfl
@[simp] theorem itD_lst {ds : List D} : itD (.lst ds) = some ds := id rfl
@[simp] theorem itD_tup {ds : List D} : itD (.tup ds) = some ds := id rfl
@[simp] theorem lcM_ap {own : List Nat} {e : M β RV} : lcM own mi t c e s = mbind mi (fun ds s => mIte (wipeOk s.sl own) (mbind (noX (lcL own t c e [] ds)) fun acc s' => .ok (.o acc) { s' with sl := restS s.sl s'.sl own }) mbad s) s := id rfl
@[simp] theorem lc2M_ap {own own1 : List Nat} {mi1 : M β (List D)} {t1 : D → M β Unit} {c1 : M β Bool} {e : M β RV} : lc2M own own1 mi t c mi1 t1 c1 e s = mbind mi (fun ds s => mIte (wipeOk s.sl own) (mbind (noX (lc2L own own1 t c mi1 t1 c1 e [] ds)) fun acc s' => .ok (.o acc) { s' with sl := restS s.sl s'.sl own }) mbad s) s := id rfl
@[simp] theorem frM_nil : frM t fl [] = mret .nx := id rfl
@[simp] theorem loopK_nx : loopK fl .nx = fl := id rfl
@[simp] theorem loopK_ct : loopK fl .ct = fl := id rfl
@[simp] theorem loopK_bk : loopK fl .bk = mret .nx := id rfl
@[simp] theorem loopK_rt {r : RV} : loopK fl (.rt r) = mret (.rt r) := id rfl
/-! generators -/
@[simp] theorem gTo_ap {ys : List D} : gTo fl ys s = mbind fl (fun f => mret (f, ys)) s := id rfl
@[simp] theorem gYld_ap {ys : List D} : gYld m ys s = mIte (decide (ys.length < sizeLine)) (mbind m fun r => mret (.nx, ys ++ [r.d])) mbad s := id rfl
@[simp] theorem gSeq_ap {ys : List D} : gSeq g g' ys s = mbind (g ys) (gThn g') s := id rfl
@[simp] theorem gThn_nx {ys : List D} : gThn g (.nx, ys) = g ys := id rfl
@[simp] theorem gThn_rt {r : RV} {ys : List D} : gThn g (.rt r, ys) = mret (.rt r, ys) := id rfl
@[simp] theorem gIf_ap {ys : List D} : gIf c g g' ys s = mbind c (fun k => mIte k (g ys) (g' ys)) s := id rfl
@[simp] theorem gFor_ap {ys : List D} : gFor mi t g ys s = mbind mi (fun ds => gFr t g ds ys) s := id rfl
@[simp] theorem gLoop_nx {ys : List D} : gLoop g (.nx, ys) = g ys := id rfl
@[simp] theorem gLoop_rt {r : RV} {ys : List D} : gLoop g (.rt r, ys) = mret (.rt r, ys) := id rfl
@[simp] theorem sz0 : (0 : Nat) ≤ sizeLine := Nat.zero_le _
@[simp] theorem sz1 : (1 : Nat) ≤ sizeLine := by rw [sizeLine_eq]; decide
@[simp] theorem sz2 : (2 : Nat) ≤ sizeLine := by rw [sizeLine_eq]; decide
@[simp] theorem sz3 : (3 : Nat) ≤ sizeLine := by rw [sizeLine_eq]; decide
@[simp] theorem sz4 : (4 : Nat) ≤ sizeLine := by rw [sizeLine_eq]; decide
@[simp] theorem sz5 : (5 : Nat) ≤ sizeLine := by rw [sizeLine_eq]; decide
@[simp] theorem sz6 : (6 : Nat) ≤ sizeLine := by rw [sizeLine_eq]; decide
@[simp] theorem sz00 : (0 : Nat) < sizeLine := by rw [sizeLine_eq]; decide
theorem szlt {n : Nat} (h : n < 1000000) : n < sizeLine := by rw [sizeLine_eq]; omega
theorem szle {n : Nat} (h : n < 1000000) : n ≤ sizeLine := Nat.le_of_lt (szlt h)
/-! operations -/
section
variable {i j : Int} {x y : List D} {d : D} {p : Int → Int → Bool}
@[simp] theorem addD_int : addD (.int i) (.int j) = some (.v (.int (i + j))) := id rfl
@[simp] theorem iaddD_int : iaddD (.int i) (.int j) = some (.v (.int (i + j))) := id rfl
@[simp] theorem subD_int : subD (.int i) (.int j) = some (.v (.int (i - j))) := id rfl
@[simp] theorem mulD_int : mulD (.int i) (.int j) = if mulOk i j then some (.v (.int (i * j))) else none := id rfl
@[simp] theorem fdivD_int : fdivD (.int i) (.int j) = if 0 < j ∧ j.natAbs.log2 < 9000 then some (.v (.int (i / j))) else none := id rfl
@[simp] theorem modD_int : modD (.int i) (.int j) = if 0 < j then some (.v (.int (i % j))) else none := id rfl
@[simp] theorem powD_int : powD (.int i) (.int j) = if 0 ≤ j ∧ j ≤ 1000000 ∧ i.natAbs < 2 ^ 64 then some (.v (.int (i ^ j.toNat))) else none := id rfl
@[simp] theorem negD_int : negD (.int i) = some (.v (.int (-i))) := id rfl
@[simp] theorem ltD_int : ltD (.int i) (.int j) = some (.v (.bl (decide (i < j)))) := id rfl
@[simp] theorem leD_int : leD (.int i) (.int j) = some (.v (.bl (decide (i ≤ j)))) := id rfl
@[simp] theorem gtD_int : gtD (.int i) (.int j) = some (.v (.bl (decide (j < i)))) := id rfl
@[simp] theorem geD_int : geD (.int i) (.int j) = some (.v (.bl (decide (j ≤ i)))) := id rfl
@[simp] theorem asB_bl {b : Bool} : asB (.bl b) = some b := id rfl
@[simp] theorem asI_int : asI (.int i) = some i := id rfl
@[simp] theorem atI_cast {α : Type} {xs : List α} {n : Nat} : atI xs (n : Int) = xs[n]? := by
  unfold atI ixN
  rw [if_pos (Int.natCast_nonneg n)]
  by_cases h : n < xs.length
  · rw [if_pos (by omega)]; simp
  · rw [if_neg (by omega), List.getElem?_eq_none (by omega)]; rfl
@[simp] theorem atI_0 {α : Type} {xs : List α} : atI xs 0 = xs[0]? := atI_cast (n := 0)
@[simp] theorem atI_1 {α : Type} {xs : List α} : atI xs 1 = xs[1]? := atI_cast (n := 1)
@[simp] theorem atI_2 {α : Type} {xs : List α} : atI xs 2 = xs[2]? := atI_cast (n := 2)
theorem atI_nn {α : Type} {xs : List α} (h : 0 ≤ i) : atI xs i = xs[i.toNat]? := by
  obtain ⟨n, rfl⟩ := Int.eq_ofNat_of_zero_le h
  simp
@[simp] theorem ixD_lst : ixD (.lst x) (.int i) = (atI x i).map .v := id rfl
@[simp] theorem ixD_tup : ixD (.tup x) (.int i) = (atI x i).map .v := id rfl
@[simp] theorem tupD_def : tupD x = if x.length ≤ sizeLine then some (.v (.tup x)) else none := id rfl
@[simp] theorem lstD_def : lstD x = if x.length ≤ sizeLine then some (.o x) else none := id rfl
theorem rngD1_int : rngD1 [.int i] = if -(2 ^ 62) ≤ i ∧ i < 2 ^ 62 then some (rgL 0 i) else none := rfl
theorem rngD2_int : rngD2 [.int i, .int j] = if -(2 ^ 62) ≤ i ∧ i < 2 ^ 62 ∧ -(2 ^ 62) ≤ j ∧ j < 2 ^ 62 then some (rgL i j) else none := rfl
theorem rng1_nat {n : Nat} (h : n < 1000000) : rngD1 [.int (n : Int)] = some (rgL 0 (n : Int)) := by rw [rngD1_int, if_pos (by omega)]
theorem rng2_nat {n m : Nat} (h : n < 1000000) (h' : m < 1000000) : rngD2 [.int (n : Int), .int (m : Int)] = some (rgL (n : Int) (m : Int)) := by rw [rngD2_int, if_pos (by omega)]
@[simp] theorem lenF_lst : lenF [.lst x] = some (.v (.int x.length)) := id rfl
@[simp] theorem lenF_tup : lenF [.tup x] = some (.v (.int x.length)) := id rfl
@[simp] theorem intF_int : intF [.int i] = some (.v (.int i)) := id rfl
@[simp] theorem absF_int : absF [.int i] = some (.v (.int (i.natAbs : Int))) := by
  have : (if i < 0 then -i else i) = (i.natAbs : Int) := by split <;> omega
  rw [← this]
  rfl
@[simp] theorem listF_lst : listF [.lst x] = some (.o x) := id rfl
@[simp] theorem listF_tup : listF [.tup x] = some (.o x) := id rfl
@[simp] theorem tupleF_lst : tupleF [.lst x] = some (.v (.tup x)) := id rfl
@[simp] theorem tupleF_tup : tupleF [.tup x] = some (.v (.tup x)) := id rfl
@[simp] theorem gcdF_int : gcdF [.int i, .int j] = some (.v (.int ((Nat.gcd i.natAbs j.natAbs : Nat) : Int))) := id rfl
@[simp] theorem appendF_one : appendF x [d] = if x.length < sizeLine then some (.non, x ++ [d]) else none := id rfl
@[simp] theorem reverseF_nil : reverseF x [] = some (.non, x.reverse) := id rfl
@[simp] theorem addD_tup : addD (.tup x) (.tup y) = if x.length + y.length ≤ sizeLine then some (.v (.tup (x ++ y))) else none := id rfl
@[simp] theorem addD_lst : addD (.lst x) (.lst y) = if x.length + y.length ≤ sizeLine then some (.o (x ++ y)) else none := id rfl
@[simp] theorem mulD_lst : mulD (.lst x) (.int i) = if -(2 ^ 63) ≤ i ∧ i < 2 ^ 63 ∧ x.length * i.toNat ≤ sizeLine then some (.o (List.replicate i.toNat x).flatten) else none := id rfl
@[simp] theorem slD_lst {l h : Option Int} : slD (.lst x) l h = some (.o (cutL x l h)) := id rfl
@[simp] theorem slD_tup {l h : Option Int} : slD (.tup x) l h = some (.v (.tup (cutL x l h))) := id rfl
theorem shaped_int : SeqAt.shaped (PyData.int i) = true := by first | rfl | simp [SeqAt.shaped]
@[simp] theorem eqD_int : eqD (.int i) (.int j) = some (.v (.bl (decide (i = j)))) := by
  simp [eqD, toPy, shaped_int, PyData.eqv]
  rfl
@[simp] theorem neD_int : neD (.int i) (.int j) = some (.v (.bl (!decide (i = j)))) := by
  simp [neD, toPy, shaped_int, PyData.eqv]
  rfl
end
end
end DL

set_option Elab.async false
set_option linter.all false
set_option maxRecDepth 100000
namespace DL
open PySem PySem.Spec L2
/-! ### loops -/
section
variable {β : Type} {t : D → M β Unit} {b : M β Fl} {c : M β Bool} {e : M β RV} {s : S β} {own : List Nat} {ds : List D} {g : GM β}
theorem whM_succ {n : Nat} : whM (n + 1) c b s = bnd (c s) (fun k => mIte k (mbind b (loopK (whM n c b))) (mret .nx)) := by
  show mbind c _ s = _
  rw [mbind_ap]
theorem gWh_succ {n : Nat} {ys : List D} : gWh (n + 1) c g ys s = bnd (c s) (fun k => mIte k (mbind (g ys) (gLoop (gWh n c g))) (mret (.nx, ys))) := by
  show mbind c _ s = _
  rw [mbind_ap]
/-- a for that runs to its end -/
theorem frM_run (I : Nat → S β → Prop) : ∀ (ds : List D) (k : Nat) (s : S β), I k s → (∀ (i : Nat) (d : D) (s : S β), ds[i]? = some d → I (k + i) s → ∃ s1 s2, t d s = .ok () s1 ∧ b s1 = .ok .nx s2 ∧ I (k + i + 1) s2) →
    ∃ s', frM t b ds s = .ok .nx s' ∧ I (k + ds.length) s'
  | [], k, s, h0, _ => ⟨s, rfl, h0⟩
  | d :: ds, k, s, h0, step => by
    obtain ⟨s1, s2, h1, h2, h3⟩ := step 0 d s rfl h0
    obtain ⟨s', h4, h5⟩ := frM_run I ds (k + 1) s2 h3 fun i d s hd hI => by
      have := step (i + 1) d s (by simpa using hd) (by rw [show k + (i + 1) = k + 1 + i by omega]; exact hI)
      rw [show k + (i + 1) = k + 1 + i by omega] at this
      exact this
    refine ⟨s', ?_, by rw [List.length_cons, show k + (ds.length + 1) = k + 1 + ds.length by omega]; exact h5⟩
    show mbind (noX (t d)) (fun _ => mbind b (loopK (frM t b ds))) s = _
    rw [mbind_ap, noX_ok h1, bnd_ok, mbind_ap, h2, bnd_ok, loopK_nx, h4]
/-- a generator's for that runs to its end -/
theorem gFr_run (I : Nat → List D → S β → Prop) : ∀ (ds : List D) (k : Nat) (ys : List D) (s : S β), I k ys s → (∀ (i : Nat) (d : D) (ys : List D) (s : S β), ds[i]? = some d → I (k + i) ys s → ∃ s1 ys2 s2, t d s = .ok () s1 ∧ g ys s1 = .ok (.nx, ys2) s2 ∧ I (k + i + 1) ys2 s2) →
    ∃ ys' s', gFr t g ds ys s = .ok (.nx, ys') s' ∧ I (k + ds.length) ys' s'
  | [], k, ys, s, h0, _ => ⟨ys, s, rfl, h0⟩
  | d :: ds, k, ys, s, h0, step => by
    obtain ⟨s1, ys2, s2, h1, h2, h3⟩ := step 0 d ys s rfl h0
    obtain ⟨ys', s', h4, h5⟩ := gFr_run I ds (k + 1) ys2 s2 h3 fun i d ys s hd hI => by
      have := step (i + 1) d ys s (by simpa using hd) (by rw [show k + (i + 1) = k + 1 + i by omega]; exact hI)
      rw [show k + (i + 1) = k + 1 + i by omega] at this
      exact this
    refine ⟨ys', s', ?_, by rw [List.length_cons, show k + (ds.length + 1) = k + 1 + ds.length by omega]; exact h5⟩
    show mbind (noX (t d)) (fun _ => mbind (g ys) (gLoop (gFr t g ds))) s = _
    rw [mbind_ap, noX_ok h1, bnd_ok, mbind_ap, h2, bnd_ok, gLoop_nx, h4]
/-- a comprehension without tests that runs to its end -/
theorem lcL_run (I : Nat → S β → Prop) (P : Nat → D → Prop) : ∀ (ds : List D) (k : Nat) (acc : List D) (s : S β), acc.length + ds.length ≤ sizeLine → I k s →
    (∀ (i : Nat) (d : D) (s : S β), ds[i]? = some d → I (k + i) s → ∃ s1 r s2, t d { s with sl := wipeS s.sl own } = .ok () s1 ∧ e s1 = .ok r s2 ∧ P (k + i) r.d ∧ I (k + i + 1) s2) →
    ∃ out s', lcL own t (mret true) e acc ds s = .ok (acc ++ out) s' ∧ out.length = ds.length ∧ (∀ (i : Nat) (d : D), out[i]? = some d → P (k + i) d) ∧ I (k + ds.length) s'
  | [], k, acc, s, _, h0, _ => ⟨[], s, by rw [List.append_nil]; rfl, rfl, fun i d h => by simp at h, h0⟩
  | d :: ds, k, acc, s, hz, h0, step => by
    obtain ⟨s1, r, s2, h1, h2, h3, h4⟩ := step 0 d s rfl h0
    have hl : acc.length < sizeLine := by rw [List.length_cons] at hz; omega
    obtain ⟨out, s', h5, h6, h7, h8⟩ := lcL_run I P ds (k + 1) (acc ++ [r.d]) s2 (by rw [List.length_append, List.length_singleton]; rw [List.length_cons] at hz; omega) h4 fun i d s hd hI => by
      have := step (i + 1) d s (by simpa using hd) (by rw [show k + (i + 1) = k + 1 + i by omega]; exact hI)
      rw [show k + (i + 1) = k + 1 + i by omega] at this
      exact this
    refine ⟨r.d :: out, s', ?_, by simp [h6], fun i d hd => ?_, by rw [List.length_cons, show k + (ds.length + 1) = k + 1 + ds.length by omega]; exact h8⟩
    · show (mbind (noX (t d)) fun _ => mbind (noX (mret true)) fun k => mIte k (mbind (noX e) fun r => mIte (decide (acc.length < sizeLine)) (lcL own t (mret true) e (acc ++ [r.d]) ds) mbad) (lcL own t (mret true) e acc ds)) { s with sl := wipeS s.sl own } = _
      rw [mbind_ap, noX_ok h1, bnd_ok, mbind_ap, noX_ok (mret_ap (a := true)), bnd_ok, mIte_t, mbind_ap, noX_ok h2, bnd_ok, decide_eq_true hl, mIte_t, h5, List.append_assoc]
      rfl
    · cases i with
      | zero => simp at hd; rw [← hd]; exact h3
      | succ i => rw [show k + (i + 1) = k + 1 + i by omega]; exact h7 i d (by simpa using hd)
/-- .. each item is told -/
theorem lcL_map (I : Nat → S β → Prop) (f : Nat → D) (ds : List D) (s : S β) (hz : ds.length ≤ sizeLine) (h0 : I 0 s)
    (step : ∀ (i : Nat) (d : D) (s : S β), ds[i]? = some d → I i s → ∃ s1 r s2, t d { s with sl := wipeS s.sl own } = .ok () s1 ∧ e s1 = .ok r s2 ∧ r.d = f i ∧ I (i + 1) s2) :
    ∃ s', lcL own t (mret true) e [] ds s = .ok ((List.range ds.length).map f) s' ∧ I ds.length s' := by
  obtain ⟨out, s', h1, h2, h3, h4⟩ := lcL_run I (fun i d => d = f i) ds 0 [] s (by simpa using hz) h0 fun i d s hd hI => by
    rw [Nat.zero_add] at hI ⊢
    exact step i d s hd hI
  refine ⟨s', ?_, by simpa using h4⟩
  rw [h1, List.nil_append]
  congr 1
  apply List.ext_getElem?
  intro i
  by_cases hi : i < ds.length
  · rw [List.getElem?_map, List.getElem?_range hi]
    have : out[i]? = some out[i] := by simp [h2, hi]
    rw [this, h3 i out[i] this, Nat.zero_add]
    rfl
  · rw [List.getElem?_eq_none (by omega), List.getElem?_eq_none (by simp; omega)]
end
/-! ### sizes -/
theorem lg_lt {x : Int} {k : Nat} (h : x.natAbs < 2 ^ k) (hk : 0 < k) : x.natAbs.log2 < k := PySem.Flt.log2_lt_of hk h
theorem mul_ok {i j : Int} {a b : Nat} (ha : i.natAbs < 2 ^ a) (hb : j.natAbs < 2 ^ b) (h0 : 0 < a) (h1 : 0 < b) (h : a + b ≤ 1000000) : mulOk i j = true := by
  unfold mulOk
  have x := lg_lt ha h0
  have y := lg_lt hb h1
  exact decide_eq_true (by omega)
theorem mul_nat {i j a b : Nat} (ha : i < 2 ^ a) (hb : j < 2 ^ b) (h0 : 0 < a) (h1 : 0 < b) (h : a + b ≤ 1000000) : mulOk (i : Int) (j : Int) = true :=
  mul_ok (a := a) (b := b) (by simpa using ha) (by simpa using hb) h0 h1 h
theorem fd_ok {j : Int} (h0 : 0 < j) (h : j.natAbs < 2 ^ 9000) : 0 < j ∧ j.natAbs.log2 < 9000 := ⟨h0, lg_lt h (by decide)⟩
end DL

set_option Elab.async false
set_option linter.all false
set_option maxRecDepth 100000
namespace DL
open PySem PySem.Spec L2
/-! ### exceptions, texts, star calls: one rule a form -/
section
variable {β : Type} {s : S β} {m ma mb : M β RV} {ms : M β (List Arg)} {ls : M β (List D)} {x y : Str} {a b : Bool} {i j : Int} {ds : List D} {e : Exc}
@[simp] theorem eqD_bl : eqD (.bl a) (.bl b) = some (.v (.bl (a == b))) := by
  have h : ∀ x : Bool, SeqAt.shaped (PyData.bool x) = true := fun x => by first | rfl | simp [SeqAt.shaped]
  simp [eqD, toPy, h, PyData.eqv]
def itx (i : Int) : Str := Str.ofString (toString i)
def sOk (x : Str) : Bool := PyData.strOk x
theorem shaped_str (h : sOk x = true) : SeqAt.shaped (PyData.str x) = true := by
  show ((PyData.str x).canLay0 && decide ((PyData.str x).depth ≤ 64)) = true
  simp [PyData.canLay0, PyData.depth]
  exact h
theorem eqD_str (hx : sOk x = true) (hy : sOk y = true) : eqD (.str x) (.str y) = some (.v (.bl (x == y))) := by
  simp [eqD, toPy, shaped_str hx, shaped_str hy, PyData.eqv]
theorem neD_str (hx : sOk x = true) (hy : sOk y = true) : neD (.str x) (.str y) = some (.v (.bl (!(x == y)))) := by
  simp [neD, toPy, shaped_str hx, shaped_str hy, PyData.eqv]
@[simp] theorem eqD_two {k l : Int} : eqD (.tup [.int i, .int j]) (.tup [.int k, .int l]) = some (.v (.bl (decide (i = k ∧ j = l)))) := by
  have h : ∀ i j : Int, SeqAt.shaped (PyData.tuple [.int i, .int j]) = true := fun i j => by
    show ((PyData.tuple [.int i, .int j]).canLay0 && decide ((PyData.tuple [.int i, .int j]).depth ≤ 64)) = true
    simp [PyData.canLay0, PyData.canLayAll0, PyData.depth, PyData.depthAll]
  simp [eqD, toPy, toPys, h, PyData.eqv, PyData.eqvAll]
  rfl
@[simp] theorem atI_3 {α : Type} {xs : List α} : atI xs 3 = xs[3]? := atI_cast (n := 3)
@[simp] theorem atI_4 {α : Type} {xs : List α} : atI xs 4 = xs[4]? := atI_cast (n := 4)
@[simp] theorem isND_non : isND .non = some (.v (.bl true)) := id rfl
@[simp] theorem isND_int : isND (.int i) = some (.v (.bl false)) := id rfl
@[simp] theorem isND_tup : isND (.tup ds) = some (.v (.bl false)) := id rfl
@[simp] theorem notND_non : notND .non = some (.v (.bl false)) := id rfl
@[simp] theorem notND_int : notND (.int i) = some (.v (.bl true)) := id rfl
@[simp] theorem truD_bl : truD (.bl a) = some a := by first | exact id rfl | simp [truD]
@[simp] theorem addD_str : addD (.str x) (.str y) = if x.length + y.length ≤ sizeLine then some (.v (.str (x ++ y))) else none := id rfl
@[simp] theorem ixD_str : ixD (.str x) (.int i) = if x.length ≤ sizeLine then (atI x.cps.toList i).map (fun c => .v (.str ⟨#[c]⟩)) else none := id rfl
@[simp] theorem slD_str {l h : Option Int} : slD (.str x) l h = if x.length ≤ sizeLine then some (.v (.str (cutS x l h))) else none := id rfl
@[simp] theorem lenF_str : lenF [.str x] = if x.length ≤ sizeLine then some (.v (.int x.length)) else none := id rfl
@[simp] theorem strF_int : strF [.int i] = if i.natAbs.log2 < 1920 then some (.v (.str (itx i))) else none := id rfl
@[simp] theorem intSF_str : intSF [.str x] = if x.length ≤ 640 then (PySem.intText? x).map (fun n => .v (.int n)) else none := id rfl
@[simp] theorem intSF_int : intSF [.int i] = some (.v (.int i)) := id rfl
@[simp] theorem fmtD_int : fmtD (.int i) = if i.natAbs.log2 < 1920 then some (.v (.str (itx i))) else none := id rfl
@[simp] theorem asS_str : asS (.str x) = some x := id rfl
@[simp] theorem findF_str : findF x (.str y) = some (.v (.int (Txt.find x y))) := id rfl
@[simp] theorem startsF_str : startsF x (.str y) = some (.v (.bl (Txt.startswith x y))) := id rfl
@[simp] theorem splitF_str : splitF x (.str y) = if (y.length == 0) = false ∧ x.length + 2 ≤ sizeLine then some (.o ((Txt.split x y).map D.str)) else none := id rfl
@[simp] theorem isdecF_str : isdecF x = some (.v (.bl (Txt.isdecimal x))) := id rfl
@[simp] theorem sm0M_ap {f : Str → Option RV} : sm0M f m s = mbind m (fun x => mbind (opt (asS x.d)) fun a => opt (f a)) s := id rfl
@[simp] theorem sm1M_ap {f : Str → D → Option RV} : sm1M f ma mb s = mbind ma (fun x => mbind (opt (asS x.d)) fun a => mbind mb fun y => opt (f a y.d)) s := id rfl
@[simp] theorem fsM_ap {ms : List (M β RV)} : fsM ms s = mbind (jsM ms Str.empty) (fun y => mret (.v (.str y))) s := id rfl
@[simp] theorem jsM_nil {acc : Str} : (jsM [] acc : M β Str) = mret acc := id rfl
@[simp] theorem jsM_cons {ms : List (M β RV)} {acc : Str} : jsM (m :: ms) acc = mbind m fun r => mbind (opt (asS r.d)) fun y => mIte (decide ((acc ++ y).length ≤ sizeLine)) (jsM ms (acc ++ y)) mbad := id rfl
@[simp] theorem itsM_ap : itsM m s = mbind m (fun r => mbind (opt (asS r.d)) fun x => mret (signsD x)) s := id rfl
@[simp] theorem finO_exc : finO (.exc e s) = .exc e s.bx := id rfl
@[simp] theorem outO_exc {as : List Arg} : outO as (.exc e ()) s = if noB as then .exc e s else .bad := by
  simp only [outO, outP]
  cases noB as <;> rfl
@[simp] theorem callS_ap {md : DefM Unit} : callS md ms s = mbind ms (fun as => mIte (noB as && decide (as.length ≤ 1000)) (mbind (rsl as) fun ds s => outO [.v (.tup ds)] (md [.tup ds] ()) s) mbad) s := id rfl
@[simp] theorem raiseM_1 {c f : Str} {d : D} {s' : S β} (h : ls s = .ok [d] s') : raiseM c [f] ls s = .exc ⟨c, [(f, d)]⟩ s' := by
  unfold raiseM
  rw [mbind_ap, h]
  rfl
theorem lg_small {i : Int} {k : Nat} (h : i.natAbs < 2 ^ k) (hk : 0 < k) (hl : k ≤ 1920) : i.natAbs.log2 < 1920 := Nat.lt_of_lt_of_le (lg_lt h hk) hl
/-- refused: the exception is told so -/
theorem refused_ok {xs : List Str} {sm : List (Str × M Unit Fl)} {mL : DefM Unit} {mb md : M β RV} {t d : D} {s1 s2 : S β} (h1 : md s = .ok (.v d) s1) (h2 : mb s1 = .exc e s2) (h3 : e.cls ∈ xs) (h4 : caughtT sm e = some t) (h5 : mL [t, d] () = .ok (.v (.bl true)) ()) : refusedM xs sm mL mb md s = .ok (.v (.bl true)) s2 := by
  unfold refusedM
  rw [mbind_ap, h1, bnd_ok, mbind_ap]
  have : triedM xs sm mb s1 = .ok (.v t) s2 := by
    unfold triedM
    rw [h2]
    show (if e.cls ∈ xs then opt ((caughtT sm e).map RV.v) s2 else .bad) = _
    rw [if_pos h3, h4]
    rfl
  rw [this, bnd_ok]
  obtain ⟨sl, b⟩ := s2
  simp [h5]
end
end DL

set_option Elab.async false
set_option linter.all false
set_option maxRecDepth 100000
namespace DL
open PySem PySem.Spec L2 PySem.NumText PyProof.Rows
/-! ### decimal digits -/
abbrev cs (x : Str) : List Nat := x.cps.toList
def tx (l : List Nat) : Str := ⟨l.toArray⟩
theorem cs_tx (l : List Nat) : cs (tx l) = l := rfl
theorem tx_cs (x : Str) : tx (cs x) = x := by obtain ⟨a⟩ := x; simp [tx, cs]
theorem str_ext {x y : Str} (h : cs x = cs y) : x = y := by rw [← tx_cs x, ← tx_cs y, h]
theorem len_cs (x : Str) : x.length = (cs x).length := by show x.cps.size = _; simp [cs]
theorem cs_app (x y : Str) : cs (x ++ y) = cs x ++ cs y := cps_toList_append x y
/-- the digits of n -/
def dgt (n : Nat) : List Nat := (Nat.toDigits 10 n).map Char.toNat
theorem digitChar_nat {d : Nat} (h : d < 10) : (Nat.digitChar d).toNat = 48 + d := by
  match d, h with
  | 0, _ => rfl
  | 1, _ => rfl
  | 2, _ => rfl
  | 3, _ => rfl
  | 4, _ => rfl
  | 5, _ => rfl
  | 6, _ => rfl
  | 7, _ => rfl
  | 8, _ => rfl
  | 9, _ => rfl
theorem dgt_lt {n : Nat} (h : n < 10) : dgt n = [48 + n] := by
  unfold dgt
  rw [Nat.toDigits_of_lt_base h]
  simp [digitChar_nat h]
theorem dgt_ge {n : Nat} (h : 10 ≤ n) : dgt n = dgt (n / 10) ++ [48 + n % 10] := by
  unfold dgt
  rw [Nat.toDigits_of_base_le (by decide) h, List.map_append]
  simp [digitChar_nat (Nat.mod_lt n (by decide))]
theorem val_snoc (l : List Nat) (c : Nat) : digitsVal (l ++ [c]) = digitsVal l * 10 + (c - 48) := by
  unfold digitsVal
  rw [List.foldl_append]
  rfl
theorem dgt_facts : ∀ n : Nat, AllDigits (dgt n) ∧ dgt n ≠ [] ∧ digitsVal (dgt n) = n ∧ ((dgt n).head? = some 48 → n = 0) := by
  intro n
  induction n using Nat.strongRecOn with
  | ind n ih =>
    by_cases h : n < 10
    · rw [dgt_lt h]
      refine ⟨fun c hc => ?_, by simp, ?_, fun hh => ?_⟩
      · simp at hc; omega
      · show 0 * 10 + (48 + n - 48) = n
        omega
      · simp at hh; omega
    · have h : 10 ≤ n := by omega
      obtain ⟨h1, h2, h3, h4⟩ := ih (n / 10) (by omega)
      rw [dgt_ge h]
      refine ⟨fun c hc => ?_, by simp, ?_, fun hh => ?_⟩
      · rcases List.mem_append.mp hc with hc | hc
        · exact h1 c hc
        · simp at hc; omega
      · rw [val_snoc, h3]; omega
      · cases hd : dgt (n / 10) with
        | nil => exact absurd hd h2
        | cons a r =>
          rw [hd] at hh h4
          have := h4 (by simpa using hh)
          omega
/-- digits without a zero ahead -/
def Cano (l : List Nat) : Prop := l.head? = some 48 → l = [48]
theorem dgt_cano (n : Nat) : Cano (dgt n) := fun h => by
  have := (dgt_facts n).2.2.2 h
  subst this
  rfl
theorem val_pos {l : List Nat} (h : AllDigits l) (h1 : l ≠ []) (h2 : l.head? ≠ some 48) : 0 < digitsVal l := by
  have key : ∀ (l : List Nat) (a : Nat), 0 < a → 0 < l.foldl (fun acc c => acc * 10 + (c - 48)) a := fun l => by
    induction l with
    | nil => exact fun a h => h
    | cons c r ih => exact fun a h => ih (a * 10 + (c - 48)) (by omega)
  cases l with
  | nil => exact absurd rfl h1
  | cons c r =>
    have hc := h.head
    have : c ≠ 48 := fun z => h2 (by rw [z]; rfl)
    exact key r (0 * 10 + (c - 48)) (by omega)
theorem dgt_val {l : List Nat} (h : AllDigits l) (h1 : l ≠ []) (h2 : Cano l) : dgt (digitsVal l) = l := by
  have key : ∀ (k : Nat) (l : List Nat), l.length = k → AllDigits l → l ≠ [] → Cano l → dgt (digitsVal l) = l := by
    intro k
    induction k with
    | zero => intro l hl _ h1 _; exact absurd (List.length_eq_zero_iff.mp hl) h1
    | succ k ih =>
      intro l hl h h1 h2
      have e : l = l.dropLast ++ [l.getLast h1] := (List.dropLast_concat_getLast h1).symm
      generalize hi : l.dropLast = i at e
      generalize l.getLast h1 = c at e
      subst e
      have hc : 48 ≤ c ∧ c ≤ 57 := h c (by simp)
      obtain ⟨hc1, hc2⟩ := hc
      have hdi : AllDigits i := fun d hd => h d (List.mem_append_left _ hd)
      by_cases hn : i = []
      · subst hn
        rw [val_snoc]
        show dgt (0 * 10 + (c - 48)) = _
        rw [dgt_lt (by omega)]
        show [48 + (0 * 10 + (c - 48))] = [] ++ [c]
        rw [List.nil_append, show 48 + (0 * 10 + (c - 48)) = c by omega]
      · have hh : i.head? ≠ some 48 := fun z => by
          have hz : (i ++ [c]).head? = some 48 := by
            cases i with
            | nil => exact absurd rfl hn
            | cons a r => simpa using z
          have := h2 hz
          have l1 : (i ++ [c]).length = 1 := by rw [this]; rfl
          rw [List.length_append] at l1
          have : 0 < i.length := List.length_pos_iff.mpr hn
          simp at l1
          exact hn l1
        have v := val_pos hdi hn hh
        have := ih i (by rw [List.length_append] at hl; simpa using hl) hdi hn fun z => absurd z hh
        rw [val_snoc, dgt_ge (by omega)]
        rw [show (digitsVal i * 10 + (c - 48)) / 10 = digitsVal i by omega, this]
        rw [show 48 + (digitsVal i * 10 + (c - 48)) % 10 = c by omega]
  exact key l.length l rfl h h1 h2
theorem dgt_iff {l : List Nat} (h : AllDigits l) (h1 : l ≠ []) : dgt (digitsVal l) = l ↔ Cano l := ⟨fun e => e ▸ dgt_cano _, dgt_val h h1⟩
theorem dgt_len {n k : Nat} (hk : 0 < k) (h : n < 10 ^ k) : (dgt n).length ≤ k := by
  unfold dgt
  rw [List.length_map]
  exact (Nat.length_toDigits_le_iff (by decide) hk).mpr h
/-! texts of ints -/
theorem cs_nat (n : Nat) : cs (itx (n : Int)) = dgt n := by
  show (Str.ofString (toString (n : Int))).cps.toList = _
  rw [signs_ofString, Int.toString_eq_repr, Int.repr_eq_if, if_pos (Int.natCast_nonneg n), Int.toNat_natCast, Nat.toList_repr]
  rfl
theorem cs_neg {n : Nat} (h : 0 < n) : cs (itx (-(n : Int))) = 45 :: dgt n := by
  show (Str.ofString (toString (-(n : Int)))).cps.toList = _
  rw [signs_ofString, Int.toString_eq_repr, Int.repr_eq_if, if_neg (by omega), String.toList_append, Nat.toList_repr, List.map_append, Int.neg_neg, Int.toNat_natCast]
  rfl
/-- ASCII -/
def Asc (l : List Nat) : Prop := ∀ c ∈ l, c < 128
theorem AllDigits.asc {l : List Nat} (h : AllDigits l) : Asc l := fun c hc => by have := h c hc; omega
theorem cs_int_asc (i : Int) : Asc (cs (itx i)) := by
  by_cases h : i < 0
  · obtain ⟨n, rfl⟩ : ∃ n : Nat, i = -(n : Int) := ⟨i.natAbs, by omega⟩
    rw [cs_neg (by omega)]
    intro c hc
    rcases List.mem_cons.mp hc with rfl | hc
    · decide
    · exact AllDigits.asc (dgt_facts n).1 c hc
  · obtain ⟨n, rfl⟩ := Int.eq_ofNat_of_zero_le (Int.not_lt.mp h)
    rw [cs_nat]
    exact AllDigits.asc (dgt_facts n).1
theorem sOk_asc {x : Str} (h : Asc (cs x)) : sOk x = true := by
  show x.cps.all (· < 0x110000) = true
  rw [← Array.all_toList, List.all_eq_true]
  intro c hc
  have := h c hc
  exact decide_eq_true (by omega)
theorem dec_asc : ∀ c, c < 128 → Unicode.isDecimal c = decide (48 ≤ c ∧ c ≤ 57) := by decide +kernel
/-! the parts of a text at a sign -/
theorem starts_one (x : Str) (c : Nat) : Txt.startswith x ⟨#[c]⟩ = decide ((cs x).head? = some c) := by
  have h := StrLaws.subAt_one x c 0
  rw [show (x.cps.toList)[0]? = (cs x).head? by simp [cs, List.head?_eq_getElem?]] at h
  unfold Txt.startswith
  rw [Bool.eq_iff_iff, Bool.and_eq_true, decide_eq_true_iff, decide_eq_true_iff]
  exact h
theorem find_none {x : Str} {c : Nat} (h : c ∉ cs x) : Txt.find x ⟨#[c]⟩ = -1 := by
  rcases find_whole x ⟨#[c]⟩ with ⟨e, _⟩ | ⟨i, _, ha, _⟩
  · exact e
  · exact absurd (List.mem_of_getElem? ((StrLaws.subAt_one x c i).mp ha)) h
theorem find_at {x : Str} {c : Nat} {l1 l2 : List Nat} (e : cs x = l1 ++ c :: l2) (h : c ∉ l1) : Txt.find x ⟨#[c]⟩ = (l1.length : Int) := by
  have at_ : ∀ i, StrLaws.At x ⟨#[c]⟩ x.length i ↔ (l1 ++ c :: l2)[i]? = some c := fun i => by
    have := StrLaws.subAt_one x c i
    rw [show x.cps.toList = l1 ++ c :: l2 from e] at this
    exact this
  rcases find_whole x ⟨#[c]⟩ with ⟨_, hn⟩ | ⟨i, e2, ha, hn⟩
  · exact absurd ((at_ l1.length).mpr (by simp)) (hn _)
  · rw [e2]
    have hi := (at_ i).mp ha
    congr 1
    rcases Nat.lt_trichotomy i l1.length with hl | hl | hl
    · rw [List.getElem?_append_left hl] at hi
      exact absurd (List.mem_of_getElem? hi) h
    · exact hl
    · exact absurd ((at_ l1.length).mpr (by simp)) (hn _ hl)
theorem cut_uniq {c : Nat} : ∀ {a b l1 l2 : List Nat}, c ∉ a → c ∉ l1 → a ++ c :: b = l1 ++ c :: l2 → a = l1 ∧ b = l2
  | [], b, [], l2, _, _, e => by simpa using e
  | [], b, d :: l1, l2, _, h2, e => by
    simp at e
    exact absurd (by rw [e.1]; simp) h2
  | d :: a, b, [], l2, h1, _, e => by
    simp at e
    exact absurd (by rw [← e.1]; simp) h1
  | d :: a, b, f :: l1, l2, h1, h2, e => by
    simp at e
    obtain ⟨rfl, e⟩ := e
    obtain ⟨r1, r2⟩ := cut_uniq (fun z => h1 (List.mem_cons_of_mem _ z)) (fun z => h2 (List.mem_cons_of_mem _ z)) e
    exact ⟨by rw [r1], r2⟩
theorem cut_mem {c : Nat} {l : List Nat} (h : c ∈ l) : ∃ l1 l2, l = l1 ++ c :: l2 ∧ c ∉ l1 := by
  obtain ⟨l1, l2, e, hn⟩ := List.append_of_mem h |> fun ⟨s, t, e⟩ => (⟨s, t, e, trivial⟩ : ∃ s t, l = s ++ c :: t ∧ True)
  clear hn e l1 l2
  induction l with
  | nil => simp at h
  | cons a r ih =>
    by_cases ha : a = c
    · exact ⟨[], r, by rw [ha]; rfl, by simp⟩
    · obtain ⟨l1, l2, e, hn⟩ := ih (by
        rcases List.mem_cons.mp h with z | z
        · exact absurd z.symm ha
        · exact z)
      exact ⟨a :: l1, l2, by rw [e]; rfl, fun z => by
        rcases List.mem_cons.mp z with z | z
        · exact ha z.symm
        · exact hn z⟩
theorem cnt_nn (c : Nat) : ∀ l : List Nat, 0 ≤ cnt c l
  | [] => by rw [cnt_nil]; decide
  | a :: r => by
    rw [cnt_cons]
    have := cnt_nn c r
    split <;> omega
theorem cnt_cut {c : Nat} (l1 l2 : List Nat) (h : c ∉ l1) : cnt c (l1 ++ c :: l2) = 1 + cnt c l2 := by
  rw [cnt_append, cnt_none c l1 h, cnt_cons, if_pos rfl]
  omega
theorem split_0 {x : Str} {c : Nat} (h : c ∉ cs x) : Txt.split x ⟨#[c]⟩ = [x] := by
  have hl := split_len x c
  rw [cnt_none c _ h] at hl
  have hj := StrLaws.join_split x ⟨#[c]⟩
  match Txt.split x ⟨#[c]⟩, hl, hj with
  | [a], _, hj => rw [join_one] at hj; rw [hj]
  | [], hl, _ => simp at hl
  | _ :: _ :: _, hl, _ => simp at hl; omega
theorem split_1 {x : Str} {c : Nat} {l1 l2 : List Nat} (e : cs x = l1 ++ c :: l2) (h1 : c ∉ l1) (h2 : c ∉ l2) : Txt.split x ⟨#[c]⟩ = [tx l1, tx l2] := by
  have hl := split_len x c
  rw [show x.cps.toList = l1 ++ c :: l2 from e, cnt_cut l1 l2 h1, cnt_none c _ h2] at hl
  have hj := StrLaws.join_split x ⟨#[c]⟩
  have hf := StrLaws.split_free x c
  match Txt.split x ⟨#[c]⟩, hl, hj, hf with
  | [a, b], _, hj, hf =>
    rw [join_cons_cons, join_one] at hj
    have e2 : cs (a ++ ⟨#[c]⟩ ++ b) = l1 ++ c :: l2 := by rw [hj]; exact e
    rw [cs_app, cs_app] at e2
    rw [show cs (⟨#[c]⟩ : Str) = [c] from rfl, List.append_assoc] at e2
    have e2 : cs a ++ c :: cs b = l1 ++ c :: l2 := e2
    obtain ⟨r1, r2⟩ := cut_uniq (hf a (by simp)) h1 e2
    rw [← r1, ← r2, tx_cs, tx_cs]
  | [], hl, _, _ => simp at hl
  | [_], hl, _, _ => simp at hl
  | _ :: _ :: _ :: _, hl, _, _ => simp at hl; omega
theorem split_2 {x : Str} {c : Nat} {l1 l2 : List Nat} (e : cs x = l1 ++ c :: l2) (h1 : c ∉ l1) (h2 : c ∈ l2) : 2 < (Txt.split x ⟨#[c]⟩).length := by
  have hl := split_len x c
  obtain ⟨l3, l4, rfl, h3⟩ := cut_mem h2
  rw [show x.cps.toList = l1 ++ c :: (l3 ++ c :: l4) from e, cnt_cut l1 _ h1, cnt_cut l3 l4 h3] at hl
  have := cnt_nn c l4
  omega
end DL

set_option Elab.async false
set_option linter.all false
set_option maxRecDepth 100000
namespace DL
open PySem PySem.Spec L2
/-! ### instances, exceptions of two fields, texts joined, lists changed: one rule a form -/
section
variable {β : Type} {s : S β} {m ma mb mo : M β RV} {ms : M β (List Arg)} {ls : M β (List D)} {sl : List Slot} {b : β} {c f g : Str} {fs : List (Str × D)} {d e : D} {xs : XS} {ds : List D} {t : D → M β Unit} {bo : M β Fl}
@[simp] theorem atM_ap : (atM xs f m : M β RV) s = mbind m (fun r => opt (atO xs f r.d)) s := id rfl
def mkO {β : Type} (c : Str) (o : Out (IB c) RV) (s : S β) : Out (S β) RV := mkP c o s
@[simp] theorem mkO_ok {q : IB c} : mkO c (.ok (.v .non) q) s = if nbxF q.fs then .ok (RV.v (.ins c q.fs)) s else .bad := by
  show mIte (nbxF q.fs) (mret (RV.v (.ins c q.fs)) : M β RV) mbad s = _
  cases nbxF q.fs <;> rfl
@[simp] theorem mkO_exc {x : Exc} {q : IB c} : mkO c (.exc x q) s = if nbxF x.fs then .exc x s else .bad := by
  show mIte (nbxF x.fs) (fun s => .exc x s) mbad s = _
  cases nbxF x.fs <;> rfl
@[simp] theorem makeM_ap {n : Nat} {md : DefM (IB c)} : makeM c n md ms s = mbind ms (fun as => mIte (as.length == n && noB as) (mbind (rsl as) fun ds => mIte (nbxs ds) (mkO c (md (.box :: ds) ⟨[]⟩)) mbad) mbad) s := id rfl
@[simp] theorem methM_ap {n : Nat} {mm : Str} {md : DefM Unit} : methM c mm n md mo ms s = mbind mo (fun r => mIte (isIns c mm r.d) (callP (n + 1) md (mbind ms fun as => mret (.v r.d :: as))) mbad) s := id rfl
def eqOo (o : Out Unit RV) (s : S β) : Out (S β) RV := match o with
  | .ok (.v (.bl k)) _ => .ok (.v (.bl k)) s
  | _ => .bad
@[simp] theorem eqOo_ok {k : Bool} : eqOo (.ok (.v (.bl k)) ()) s = .ok (.v (.bl k)) s := id rfl
@[simp] theorem eqM_ap {md : DefM Unit} : eqM c md ma mb s = mbind ma (fun x => mbind mb fun y => mIte (isO c x.d && isO c y.d) (fun s => eqOo (md [x.d, y.d] ()) s) mbad) s := id rfl
@[simp] theorem nbxs_nil : nbxs [] = true := id rfl
@[simp] theorem nbxs_cons : nbxs (d :: ds) = (nbx d && nbxs ds) := id rfl
@[simp] theorem nbx_int {i : Int} : nbx (.int i) = true := id rfl
@[simp] theorem nbx_str {x : Str} : nbx (.str x) = true := id rfl
@[simp] theorem nbx_non : nbx .non = true := id rfl
@[simp] theorem nbx_bl {k : Bool} : nbx (.bl k) = true := id rfl
@[simp] theorem nbx_tup : nbx (.tup ds) = nbxs ds := id rfl
@[simp] theorem nbx_lst : nbx (.lst ds) = nbxs ds := id rfl
@[simp] theorem nbx_box : nbx .box = false := id rfl
@[simp] theorem nbx_ins : nbx (.ins c fs) = nbxF fs := id rfl
@[simp] theorem nbxF_nil : nbxF [] = true := id rfl
@[simp] theorem nbxF_cons {q : Str × D} : nbxF (q :: fs) = (nbx q.2 && nbxF fs) := id rfl
@[simp] theorem nbxs_ints (l : List Int) : nbxs (l.map D.int) = true := by
  induction l with
  | nil => rfl
  | cons a l ih => simp [ih]
@[simp] theorem nbxs_strs (l : List Str) : nbxs (l.map D.str) = true := by
  induction l with
  | nil => rfl
  | cons a l ih => simp [ih]
def asO (c : Str) (l : List Str) (f : Str) (d : D) (s : S (IB c)) : Option Slot → Out (S (IB c)) Unit
  | some (.v .box) => if nbx d = true ∧ f ∈ l ∧ s.bx.fs.length < 100 then .ok () { s with bx := ⟨putD f d s.bx.fs⟩ } else .bad
  | _ => .bad
theorem atS_ap {l : List Str} {i : Nat} {sl : List Slot} {q : IB c} (h : sl[i]? = some (.v .box)) (h1 : nbx d = true) (h2 : f ∈ l) (h3 : q.fs.length < 100) : atS c l i f d ⟨sl, q⟩ = .ok () ⟨sl, ⟨putD f d q.fs⟩⟩ := by
  unfold atS
  simp only [h, h1, decide_eq_true h2, decide_eq_true h3]
def rsO (c f g : Str) (s : S β) : List D → Out (S β) Fl
  | [d, e] => .exc ⟨c, [(g, e), (f, d)]⟩ s
  | _ => .bad
@[simp] theorem rsO_two : rsO c f g s [d, e] = .exc ⟨c, [(g, e), (f, d)]⟩ s := id rfl
@[simp] theorem raiseM_2ap : raiseM c [f, g] ls s = bnd (ls s) (fun ds s => rsO c f g s ds) := by
  unfold raiseM
  rw [mbind_ap]
  congr 1
  funext ds s
  match ds with
  | [] => rfl
  | [_] => rfl
  | [_, _] => rfl
  | _ :: _ :: _ :: ds =>
    show mIte (decide (ds.length + 3 = 2) && _) _ _ s = _
    rw [decide_eq_false (by omega)]
    rfl
def xfO (xs : XS) (f : Str) (s : S β) : Option Slot → Out (S β) RV
  | some (.v (.exc c fs)) => optO ((xs.lookup c).bind fun l => if f ∈ l then (fs.lookup f).map RV.v else none) s
  | _ => .bad
@[simp] theorem xfO_exc : xfO xs f s (some (.v (.exc c fs))) = optO ((xs.lookup c).bind fun l => if f ∈ l then (fs.lookup f).map RV.v else none) s := id rfl
@[simp] theorem xfM_ap {i : Nat} : xfM xs i f ⟨sl, b⟩ = xfO xs f ⟨sl, b⟩ sl[i]? := by
  unfold xfM xfO
  show (match sl[i]? with | some (.v (.exc c fs)) => _ | _ => _) = _
  cases sl[i]? with
  | none => rfl
  | some k => cases k with
    | v d => cases d <;> first | rfl | exact opt_ap
    | _ => rfl
theorem strsOf_map (l : List Str) : strsOf (l.map D.str) = some l := by
  induction l with
  | nil => rfl
  | cons a l ih =>
    show (strsOf (l.map D.str)).map (a :: ·) = _
    rw [ih]; rfl
theorem joinF_map {a : Str} {l : List Str} (h : (l.map (·.length)).sum + l.length * a.length ≤ 16777216) : joinF a (.lst (l.map D.str)) = some (.v (.str (Txt.join a l))) := by
  show (strsOf (l.map D.str)).bind _ = _
  rw [strsOf_map, Option.bind_some, if_pos h]
@[simp] theorem mulTD_tup {i : Int} : mulTD (.tup ds) (.int i) = if 1 ≤ i ∧ i ≤ 1000000 ∧ ds ≠ [] ∧ ds.length * i.toNat ≤ 1000000 then some (.v (.tup (List.replicate i.toNat ds).flatten)) else none := id rfl
@[simp] theorem insertF_two {i : Int} : insertF ds [.int i, d] = if ds.length < sizeLine ∧ 0 ≤ i ∧ i < 2 ^ 63 then some (.non, ds.take i.toNat ++ [d] ++ ds.drop i.toNat) else none := id rfl
theorem seqIx_nat {n i : Nat} (h : i < n) : seqIndex? (i : Int) n = some i := by
  unfold seqIndex?
  have h1 : ¬ (i : Int) < 0 := by omega
  have h2 : (0 : Int) ≤ (i : Int) := by omega
  have h3 : (i : Int) < (n : Int) := by omega
  simp only [h1, if_false, h2, h3, decide_true, Bool.and_self, if_true, Int.toNat_natCast]
theorem popAtF_nat {i : Nat} (h : i < ds.length) (hz : ds.length < 1000000) : popAtF ds [.int (i : Int)] = some (ds[i], ds.eraseIdx i) := by
  have e : popAtF ds [.int (i : Int)] = if -(2 ^ 63) ≤ (i : Int) ∧ (i : Int) < 2 ^ 63 then (seqIndex? (i : Int) ds.length).bind fun k => (ds[k]?).map fun d => (d, ds.eraseIdx k) else none := id rfl
  have hb : -(2 ^ 63) ≤ (i : Int) ∧ (i : Int) < 2 ^ 63 := by omega
  have hg : ds[i]? = some ds[i] := List.getElem?_eq_getElem h
  rw [e, if_pos hb, seqIx_nat h, Option.bind_some, hg]
  rfl
theorem ixN_nat {n i : Nat} (h : i < n) : ixN n (i : Int) = some i := by
  unfold ixN
  rw [if_pos (Int.natCast_nonneg i), if_pos (by omega)]
  simp
@[simp] theorem sixT_ap {i : Nat} : sixT i m d s = mbind (ownAt i) (fun _ => mbind m fun y => mbind (ownAt i) fun ds => mbind (opt ((asI y.d).bind fun k => ixN ds.length k)) fun j => putO i (ds.set j d)) s := id rfl
@[simp] theorem truD_lst : truD (.lst ds) = some (!ds.isEmpty) := by first | exact id rfl | simp [truD]
@[simp] theorem truD_tup : truD (.tup ds) = some (!ds.isEmpty) := by first | exact id rfl | simp [truD]
theorem truD_str {x : Str} (h : x.length ≤ sizeLine) : truD (.str x) = some (!decide (x.length = 0)) := by
  have : truD (.str x) = if x.length ≤ sizeLine then some ((x.length : Int) != 0) else none := by first | exact id rfl | simp [truD]
  rw [this, if_pos h]
  congr 1
  by_cases h0 : x.length = 0
  · rw [h0]; rfl
  · rw [decide_eq_false h0]
    simp [bne]
    intro z
    exact h0 (by rw [z])
/-! loops -/
theorem frM_cons : frM t bo (d :: ds) s = mbind (noX (t d)) (fun _ => mbind bo (loopK (frM t bo ds))) s := rfl
theorem frM_end : frM t bo [] s = .ok .nx s := rfl
theorem frM_step {s1 : S β} (h : t d s = .ok () s1) : frM t bo (d :: ds) s = bnd (bo s1) (fun f => loopK (frM t bo ds) f) := by
  rw [frM_cons, mbind_ap, noX_ok h, bnd_ok, mbind_ap]
theorem rgL_cons {i j : Int} (h : i < j) : rgL i j = .int i :: rgL (i + 1) j := by
  unfold rgL
  obtain ⟨n, hn⟩ : ∃ n : Nat, (j - i).toNat = n + 1 := ⟨(j - i).toNat - 1, by omega⟩
  rw [hn, show (j - (i + 1)).toNat = n by omega, List.range_succ_eq_map, List.map_cons, List.map_map]
  congr 1
  · congr 1; simp
  · apply List.map_congr_left
    intro k _
    show D.int (i + ((k + 1 : Nat) : Int)) = D.int (i + 1 + (k : Int))
    congr 1; omega
theorem rgL_end {i j : Int} (h : j ≤ i) : rgL i j = [] := by
  unfold rgL
  rw [show (j - i).toNat = 0 by omega]; rfl
/-- a comprehension with a test: what passes it -/
theorem lcL_filt {own : List Nat} {c : M β Bool} {e : M β RV} (p : D → Bool) (g : D → D) (I : S β → Prop) : ∀ (ds acc : List D) (s : S β), acc.length + ds.length ≤ sizeLine → I s →
    (∀ (d : D) (s : S β), d ∈ ds → I s → ∃ s1 s2, t d { s with sl := wipeS s.sl own } = .ok () s1 ∧ c s1 = .ok (p d) s2 ∧ I s2 ∧ (p d = true → ∃ r s3, e s2 = .ok r s3 ∧ r.d = g d ∧ I s3)) →
    ∃ s', lcL own t c e acc ds s = .ok (acc ++ (ds.filter p).map g) s' ∧ I s'
  | [], acc, s, _, h0, _ => ⟨s, by show Out.ok acc s = _; simp, h0⟩
  | d :: ds, acc, s, hz, h0, step => by
    rw [List.length_cons] at hz
    have st := step d s (by simp) h0
    have more := fun d' s' (hd : d' ∈ ds) => step d' s' (List.mem_cons_of_mem _ hd)
    obtain ⟨s1, s2, h1, h2, h3, h4⟩ := st
    show ∃ s', (mbind (noX (t d)) fun _ => mbind (noX c) fun k => mIte k (mbind (noX e) fun r => mIte (decide (acc.length < sizeLine)) (lcL own t c e (acc ++ [r.d]) ds) mbad) (lcL own t c e acc ds)) { s with sl := wipeS s.sl own } = _ ∧ _
    rw [mbind_ap, noX_ok h1, bnd_ok, mbind_ap, noX_ok h2, bnd_ok]
    cases hp : p d with
    | false =>
      obtain ⟨s', h5, h6⟩ := lcL_filt p g I ds acc s2 (by omega) h3 more
      refine ⟨s', ?_, h6⟩
      rw [mIte_f, h5, List.filter_cons, hp]
      rfl
    | true =>
      obtain ⟨r, s3, h7, h8, h9⟩ := h4 hp
      obtain ⟨s', h5, h6⟩ := lcL_filt p g I ds (acc ++ [r.d]) s3 (by rw [List.length_append, List.length_singleton]; omega) h9 more
      refine ⟨s', ?_, h6⟩
      rw [mIte_t, mbind_ap, noX_ok h7, bnd_ok, decide_eq_true (show acc.length < sizeLine by omega), mIte_t, h5, List.filter_cons, hp, h8]
      simp
/-! cuts -/
theorem cutL_from {α : Type} (l : List α) (n : Nat) : cutL l (some (n : Int)) none = l.drop n := by
  unfold cutL
  rw [HT.sIx_nat, HT.sIx_none, List.take_of_length_le (by rw [List.length_drop]; exact Nat.le_refl _)]
  by_cases h : n ≤ l.length
  · rw [Nat.min_eq_left h]
  · rw [Nat.min_eq_right (by omega), List.drop_of_length_le (Nat.le_refl _), List.drop_of_length_le (by omega)]
theorem cutL_to {α : Type} (l : List α) (n : Nat) : cutL l none (some (n : Int)) = l.take n := by
  unfold cutL
  rw [HT.sIx_none, HT.sIx_nat, List.drop_zero, Nat.sub_zero, List.take_eq_take_iff]
  omega
theorem cutL_mid {α : Type} (l : List α) (n k : Nat) (h : n ≤ l.length) : cutL l (some (n : Int)) (some (k : Int)) = (l.drop n).take (k - n) := by
  unfold cutL
  rw [HT.sIx_nat, HT.sIx_nat, Nat.min_eq_left h, List.take_eq_take_iff, List.length_drop]
  omega
/-! equal sequences -/
theorem toPys_ints (l : List Int) : toPys (l.map D.int) = some (l.map PyData.int) := by
  induction l with
  | nil => rfl
  | cons a l ih => simp [toPys, toPy, ih]
theorem eqv_ints : ∀ a b : List Int, PyData.eqvAll (a.map PyData.int) (b.map PyData.int) = decide (a = b)
  | [], [] => by simp [PyData.eqvAll]
  | [], _ :: _ => by simp [PyData.eqvAll]
  | _ :: _, [] => by simp [PyData.eqvAll]
  | a :: l, b :: m => by
    simp only [List.map_cons, PyData.eqvAll, eqv_ints l m, PyData.eqv]
    by_cases h : a = b <;> by_cases h' : l = m <;> simp [h, h']
theorem shaped_ints (l : List Int) : SeqAt.shaped (PyData.tuple (l.map PyData.int)) = true := by
  have h1 : PyData.canLayAll0 (l.map PyData.int) = true := by
    induction l with
    | nil => rfl
    | cons a l ih => simp [PyData.canLayAll0, PyData.canLay0, ih]
  have h2 : PyData.depthAll (l.map PyData.int) = 0 := by
    induction l with
    | nil => rfl
    | cons a l ih => simp [PyData.depthAll, PyData.depth, ih (by
        simp [PyData.canLayAll0, PyData.canLay0] at h1
        exact h1)]
  show ((PyData.tuple (l.map PyData.int)).canLay0 && decide ((PyData.tuple (l.map PyData.int)).depth ≤ 64)) = true
  simp [PyData.canLay0, PyData.depth, h1, h2]
theorem eqD_ints (a b : List Int) : eqD (.tup (a.map D.int)) (.tup (b.map D.int)) = some (.v (.bl (decide (a = b)))) := by
  simp [eqD, toPy, toPys_ints, shaped_ints, PyData.eqv, eqv_ints]
theorem neD_ints (a b : List Int) : neD (.tup (a.map D.int)) (.tup (b.map D.int)) = some (.v (.bl (!decide (a = b)))) := by
  simp [neD, toPy, toPys_ints, shaped_ints, PyData.eqv, eqv_ints]
theorem eqD_nil (a : List Int) : eqD (.tup (a.map D.int)) (.tup []) = some (.v (.bl (decide (a = [])))) := eqD_ints a []
theorem toPys_strs (l : List Str) : toPys (l.map D.str) = some (l.map PyData.str) := by
  induction l with
  | nil => rfl
  | cons a l ih => simp [toPys, toPy, ih]
theorem shaped_strs {l : List Str} (h : ∀ x ∈ l, sOk x = true) : SeqAt.shaped (PyData.list (l.map PyData.str)) = true := by
  have h1 : PyData.canLayAll0 (l.map PyData.str) = true := by
    induction l with
    | nil => rfl
    | cons a l ih =>
      have ha : PyData.strOk a = true := h a (by simp)
      simp [PyData.canLayAll0, PyData.canLay0, ha, ih fun x hx => h x (List.mem_cons_of_mem _ hx)]
  have h2 : ∀ l : List Str, PyData.depthAll (l.map PyData.str) = 0 := fun l => by
    induction l with
    | nil => rfl
    | cons a l ih => simp [PyData.depthAll, PyData.depth, ih]
  show ((PyData.list (l.map PyData.str)).canLay0 && decide ((PyData.list (l.map PyData.str)).depth ≤ 64)) = true
  simp [PyData.canLay0, PyData.depth, h1, h2]
theorem eqD_lnil {l : List Str} (h : ∀ x ∈ l, sOk x = true) : eqD (.lst (l.map D.str)) (.lst []) = some (.v (.bl (decide (l = [])))) := by
  have h0 : SeqAt.shaped (PyData.list []) = true := shaped_strs (l := []) (by simp)
  have e : toPys [] = some [] := rfl
  simp [eqD, toPy, toPys_strs, shaped_strs h, PyData.eqv, e, h0]
  cases l <;> simp [PyData.eqvAll]
theorem shaped_lints (l : List Int) : SeqAt.shaped (PyData.list (l.map PyData.int)) = true := by
  have h : SeqAt.shaped (PyData.tuple (l.map PyData.int)) = true := shaped_ints l
  have h1 : ((PyData.tuple (l.map PyData.int)).canLay0 && decide ((PyData.tuple (l.map PyData.int)).depth ≤ 64)) = true := h
  show ((PyData.list (l.map PyData.int)).canLay0 && decide ((PyData.list (l.map PyData.int)).depth ≤ 64)) = true
  simpa [PyData.canLay0, PyData.depth] using h1
theorem neD_lints (a : List Int) : neD (.lst (a.map D.int)) (.lst []) = some (.v (.bl (!decide (a = [])))) := by
  have h0 : SeqAt.shaped (PyData.list []) = true := shaped_lints []
  have e : toPys [] = some [] := rfl
  simp [neD, toPy, toPys_ints, shaped_lints, PyData.eqv, e, h0]
  cases a <;> simp [PyData.eqvAll]
end
end DL

set_option Elab.async false
set_option linter.all false
set_option maxRecDepth 100000
namespace DL
open PySem PySem.Spec L2
/-! ### [str(x) for x in ..]: one name, its slot put back -/
section
variable {β : Type}
@[simp] theorem strSF_str {x : Str} : strSF [.str x] = some (.v (.str x)) := id rfl
@[simp] theorem strSF_int {i : Int} : strSF [.int i] = if i.natAbs.log2 < 1920 then some (.v (.str (itx i))) else none := id rfl
theorem lcL_fun (i : Nat) (F : List D → Option RV) (G : D → D) (sl : List Slot) (b : β) (hi : i < sl.length) : ∀ (ds acc : List D) (k : Slot), (∀ d ∈ ds, F [d] = some (.v (G d)) ∧ scalD (G d) = true) → acc.length + ds.length ≤ sizeLine →
    ∃ k', lcL [i] (fun d => stV i (.v d)) (mret true) (eAppB F (argC (argN i) (mret []))) acc ds ⟨sl.set i k, b⟩ = .ok (acc ++ ds.map G) ⟨sl.set i k', b⟩
  | [], acc, k, _, _ => ⟨k, by show Out.ok acc _ = _; simp⟩
  | d :: ds, acc, k, h, hz => by
    rw [List.length_cons] at hz
    obtain ⟨h1, h2⟩ := h d (by simp)
    have hl : acc.length < sizeLine := by omega
    obtain ⟨k', ih⟩ := lcL_fun i F G sl b hi ds (acc ++ [G d]) (.v d) (fun e he => h e (List.mem_cons_of_mem _ he)) (by rw [List.length_append, List.length_singleton]; omega)
    refine ⟨k', ?_⟩
    have e0 : wipeS (sl.set i k) [i] = sl.set i .no := by
      show (sl.set i k).set i .no = _
      rw [List.set_set]
    have g0 : (sl.set i Slot.no)[i]? = some .no := List.getElem?_set_self hi
    have g1 : (sl.set i (Slot.v d))[i]? = some (.v d) := List.getElem?_set_self hi
    have step : lcL [i] (fun d => stV i (.v d)) (mret true) (eAppB F (argC (argN i) (mret []))) acc (d :: ds) ⟨sl.set i k, b⟩ = (mbind (noX (stV i (.v d))) fun _ => mbind (noX (mret true)) fun k => mIte k (mbind (noX (eAppB F (argC (argN i) (mret [])))) fun r => mIte (decide (acc.length < sizeLine)) (lcL [i] (fun d => stV i (.v d)) (mret true) (eAppB F (argC (argN i) (mret []))) (acc ++ [r.d]) ds) mbad)
      (lcL [i] (fun d => stV i (.v d)) (mret true) (eAppB F (argC (argN i) (mret []))) acc ds)) ⟨wipeS (sl.set i k) [i], b⟩ := rfl
    rw [step, e0]
    have e1 : acc ++ (d :: ds).map G = acc ++ [G d] ++ ds.map G := by simp
    rw [e1, ← ih]
    simp [noX_ap, g0, g1, h1, h2, hl]
theorem lcM_fun {i : Nat} {F : List D → Option RV} {G : D → D} {sl : List Slot} {b : β} {s0 : S β} {mi : M β (List D)} {ds : List D} (hm : mi s0 = .ok ds ⟨sl, b⟩) (hn : notO sl[i]? = true) (h : ∀ d ∈ ds, F [d] = some (.v (G d)) ∧ scalD (G d) = true) (hz : ds.length ≤ sizeLine) :
    lcM [i] mi (fun d => stV i (.v d)) (mret true) (eAppB F (argC (argN i) (mret []))) s0 = .ok (.o (ds.map G)) ⟨sl, b⟩ := by
  have hi : i < sl.length := by
    cases hg : sl[i]? with
    | none => rw [hg] at hn; cases hn
    | some k => exact (List.getElem?_eq_some_iff.mp hg).1
  obtain ⟨k, hk⟩ : ∃ k, sl[i]? = some k := ⟨sl[i], List.getElem?_eq_getElem hi⟩
  have e0 : sl.set i k = sl := by
    apply List.ext_getElem?
    intro j
    by_cases hj : i = j
    · subst hj; rw [List.getElem?_set_self hi, hk]
    · rw [List.getElem?_set_ne hj]
  obtain ⟨k', hl⟩ := lcL_fun i F G sl b hi ds [] k h (by simpa using hz)
  rw [e0, List.nil_append] at hl
  have hw : wipeOk sl [i] = true := by
    show ([i].all fun i => notO sl[i]?) = true
    simp [hn]
  have hr : restS sl (sl.set i k') [i] = sl := by
    show ((sl.set i k').set i (sl.getD i .no)) = sl
    rw [List.set_set, List.getD_eq_getElem?_getD, hk]
    exact e0
  rw [lcM_ap, mbind_ap, hm, bnd_ok]
  show mIte (wipeOk sl [i]) _ mbad ⟨sl, b⟩ = _
  rw [hw, mIte_t, mbind_ap, noX_ok hl, bnd_ok]
  show Out.ok _ (⟨restS sl (sl.set i k') [i], b⟩ : S β) = _
  rw [hr]
end
end DL

set_option Elab.async false
set_option linter.all false
set_option maxRecDepth 100000
namespace DL
open PySem PySem.Spec L2
/-! ### methods by keyword, generator methods, compares with anything, own lists handed over: one rule a form -/
section
variable {β : Type} {s : S β} {m ma mb mo : M β RV} {ms mk : M β (List Arg)} {c mm : Str} {n nk : Nat} {pi : List Nat} {md : DefM Unit} {mg' : DefG} {d e : D} {ds : List D} {k : Bool}
@[simp] theorem recvM_ap {cont : D → M β RV} : recvM c mm mo cont s = mbind mo (fun r => mIte (isIns c mm r.d) (cont r.d) mbad) s := id rfl
@[simp] theorem selfK_ap : selfK nk pi mk d s = mbind mk (fun as => mIte (as.length == nk) (mret (perm (0 :: pi.map (· + 1)) (.v d :: as))) mbad) s := id rfl
@[simp] theorem selfA_ap : selfA ms d s = mbind ms (fun as => mret (.v d :: as)) s := id rfl
@[simp] theorem methK_ap : methK c mm n nk pi md mo mk s = recvM c mm mo (fun d => callP (n + 1) md (selfK nk pi mk d)) s := id rfl
@[simp] theorem listGM_ap : listGM c mm n mg' mo ms s = recvM c mm mo (fun d => callG (n + 1) mg' (selfA ms d)) s := id rfl
@[simp] theorem listGK_ap : listGK c mm n nk pi mg' mo mk s = recvM c mm mo (fun d => callG (n + 1) mg' (selfK nk pi mk d)) s := id rfl
@[simp] theorem cmO_ok {neg : Bool} : cmO neg (.ok (.v (.bl k)) ()) s = .ok (.v (.bl (neg != k))) s := id rfl
@[simp] theorem cmpM_ap {neg : Bool} : cmpM c neg md ma mb s = mbind ma (fun x => mbind mb fun y => mIte (isO c x.d && yOk c y.d) (fun s => cmO neg (md [x.d, y.d] ()) s) mbad) s := id rfl
@[simp] theorem yOk_str {x : Str} : yOk c (.str x) = true := id rfl
@[simp] theorem yOk_tup : yOk c (.tup ds) = true := id rfl
@[simp] theorem rpO_ok {z : Str} : rpO (.ok (.v (.str z)) ()) s = .ok (.v (.str z)) s := id rfl
@[simp] theorem reprM_ap : reprM c md m s = mbind m (fun x => mIte (isO c x.d) (fun s => rpO (md [x.d] ()) s) mbad) s := id rfl
def mkOwO {β : Type} (c : Str) (o : Out (IB c) RV) (s : S β) : Out (S β) RV := mkOwn c o s
@[simp] theorem mkOwO_ok {q : IB c} : mkOwO c (.ok (.v .non) q) s = if nolF q.fs then .ok (RV.v (.ins c q.fs)) s else .bad := by
  show mIte (nolF q.fs) (mret (RV.v (.ins c q.fs)) : M β RV) mbad s = _
  cases nolF q.fs <;> rfl
@[simp] theorem mkOwO_exc {x : Exc} {q : IB c} : mkOwO c (.exc x q) s = if nolF x.fs then .exc x s else .bad := by
  show mIte (nolF x.fs) (fun s => .exc x s) mbad s = _
  cases nolF x.fs <;> rfl
@[simp] theorem makeB_ap {md : DefM (IB c)} : makeB c n md ms s = mbind ms (fun as => mIte (as.length == n) (mbind (rsl as) fun ds => mIte (nbxs ds) (mkOwO c (md (.box :: ds) ⟨[]⟩)) mbad) mbad) s := id rfl
@[simp] theorem makeK_ap {md : DefM (IB c)} : makeK c n pi md mk s = mbind mk (fun as => mIte (as.length == n && noB as) (mbind (rsl as) fun ds => mIte (nbxs ds) (mkO c (md (.box :: perm pi ds) ⟨[]⟩)) mbad) mbad) s := id rfl
@[simp] theorem outL_ok {r : RV} : outL (.ok r ()) s = if scalR r then .ok r s else .bad := by
  show mIte (scalR r) (mret r) mbad s = _
  cases scalR r <;> rfl
@[simp] theorem callPL_ap {i j : Nat} : callPL md i j mb s = mbind (rsl [.b i, .b j]) (fun _ => mbind (noX mb) fun r => mbind (rsl [.b i, .b j]) fun ds => outL (md [.lst ds, r.d] ())) s := id rfl
theorem runGen_ok {n : Nat} {mb : GM Unit} {out : List D} {s' : S Unit} (h : mb [] ⟨ds.map Slot.v ++ List.replicate (n - ds.length) Slot.no, ()⟩ = .ok (.nx, out) s') : runGen n mb ds = some out := by
  unfold runGen
  rw [h]
@[simp] theorem nols_nil : nols [] = true := id rfl
@[simp] theorem nols_cons : nols (d :: ds) = (nol d && nols ds) := id rfl
@[simp] theorem nol_int {i : Int} : nol (.int i) = true := id rfl
@[simp] theorem nol_str {x : Str} : nol (.str x) = true := id rfl
@[simp] theorem nol_tup : nol (.tup ds) = nols ds := id rfl
@[simp] theorem nolF_nil : nolF [] = true := id rfl
@[simp] theorem nolF_cons {q : Str × D} {fs : List (Str × D)} : nolF (q :: fs) = (nol q.2 && nolF fs) := id rfl
@[simp] theorem nols_ints (l : List Int) : nols (l.map D.int) = true := by
  induction l with
  | nil => rfl
  | cons a l ih => simp [ih]
end
end DL

set_option Elab.async false
set_option linter.all false
set_option maxRecDepth 100000
set_option maxHeartbeats 0
namespace K03
open PySem PySem.Spec PyProof.Rows L2 L2H DL
abbrev sc_law_n : Nat := 13
theorem sI_BadStream : FnScope ["self", "item", "why"] ["self", "item", "why"] (defScope (clsDef (topS 12))) := ⟨rfl, rfl, rfl, by decide +kernel, rfl, by decide +kernel, by decide +kernel⟩
theorem bl {w : World} {K : PySem.W.Frag} {h : Heap} {mg : Str → Option Value} (X : K.In h) (G : h.Ns mainGlobals mg) (c : He.SaysX fa fn [] RowT.tf (allB xs) w h K) : Bl K mg := {
  IndexError := fr_of X G c.t.d 46
  KeyError := fr_of X G c.t.d 47
  LookupError := fr_of X G c.t.d 48
  RuntimeError := fr_of X G c.t.d 49
  ValueError := fr_of X G c.t.d 50
  bool := fr_of X G c.t.d 51
  dict := fr_of X G c.t.d 52
  int := fr_of X G c.t.d 53
  isinstance := fr_of X G c.t.d 54
  len := fr_of X G c.t.d 55
  list := fr_of X G c.t.d 56
  range := fr_of X G c.t.d 57
  repr := fr_of X G c.t.d 58
  str := fr_of X G c.t.d 59
  tuple := fr_of X G c.t.d 60
  OP_Stream := opF_of (allB_at c.more 10)
  TI := insF_of (fun q hq => by
    simp only [insX, List.mem_cons, List.not_mem_nil, or_false] at hq
    subst hq
    exact allB_at c.more 5)
  TC_Stream := isC_of (allB_at c.more 9) (He.glo_ok X G (c.t.d.fact 26)) (fun d hd => by
    simp only [csX, List.mem_cons, List.not_mem_nil, or_false] at hd
    subst hd
    exact (clsB_ok (allB_at c.more 5)).1) }
theorem facts {P : Program} {w : World} {K : PySem.W.Frag} {h : Heap} {mg : Str → Option Value} {f : Addr} (X : K.In h) (G : h.Ns mainGlobals mg) (hfa : mg ("law" : Str) = some (.ref f)) (c : He.SaysX fa fn [] RowT.tf (allB xs) w h K) (ca : He5.SaysA [] na K) (hm : ∀ ns : List Int, ns.length ≤ 63 → lawR sc_law_n b_law ns) :
    ∃ fd : FuncData, (∀ (s : Shared) (v : Value), BindsTo s fd ⟨[v], []⟩ [("script", v)]) ∧ ∀ base : Heap, K.In base → base.Ns mainGlobals mg → (∀ p ∈ RowT.tf, LamX.TabB base mg (He.cT K p).1 (He.cT K p).2) → FnOk P w K mg base (L2N.CX P w) 17 f fd ["script"] (spLaw K) := by
  have B := bl X G c
  have GM : ∀ y ∈ marksOwn, mg y = some (.ref (He.ga K y)) := gl_of X G c.t.d fun y hy => List.mem_append_right _ (List.mem_append_left _ (List.mem_map.mpr ⟨y, hy, rfl⟩))
  have MF : MarksF K mg xsn := marksB_ok (allB_at c.more 1 (x := marksB xsn)) GM
  have T : XF K xsX := fldB_ok (allB_at c.more 2 (x := fldB xsX))
  have TS : XM K mg xsn (smX.map (·.1)) := exmB_ok (ys := ysn) (allB_at c.more 3 (x := exmB xsn ysn)) (fun y hy => GM y ((by decide : ∀ y ∈ xsn, y ∈ marksOwn) y hy)) (fun y hy => GM y ((by decide : ∀ y ∈ ysn, y ∈ marksOwn) y hy))
  have nd : ((tabsOf K).map (·.1)).Nodup := tabs_nodup (allB_at c.more 4 (x := fun K => decide ((RowT.tf.map fun p => (He.cT K p).2).Nodup)))
  have FI_BadStream : ∃ fd, FunD K "__init__" ("BadStream" ++ ".__init__") (defArgs (clsDef (topS 12))) (defBody (clsDef (topS 12))) (defScope (clsDef (topS 12))) [] [] (He.ma K (He.ga K "BadStream") "__init__") fd := c.t.d.def_ 34 (d := iniD "BadStream" (clsDef (topS 12))) rfl
  have F_letter_count : Fd K mg "letter_count" s_letter_count := fd_of X G c.t.d 0 0
  have F_shortest_writing : Fd K mg "shortest_writing" s_shortest_writing := fd_of X G c.t.d 1 1
  have F_digit_at : Fd K mg "digit_at" s_digit_at := fd_of X G c.t.d 2 2
  have F__law_draw : Fd K mg "_law_draw" s__law_draw := fd_of X G c.t.d 3 3
  have F__law_of : Fd K mg "_law_of" s__law_of := fd_of X G c.t.d 4 4
  have F__law_like : Fd K mg "_law_like" s__law_like := fd_of X G c.t.d 5 5
  have F__law_classes : Fd K mg "_law_classes" s__law_classes := fd_of X G c.t.d 6 6
  have F__law_why : Fd K mg "_law_why" s__law_why := fd_of X G c.t.d 7 7
  have F__law_caught : Fd K mg "_law_caught" s__law_caught := fd_of X G c.t.d 8 8
  have F__law_tried : Fd K mg "_law_tried" s__law_tried := fd_of X G c.t.d 9 9
  have F__law_refused : Fd K mg "_law_refused" s__law_refused := fd_of X G c.t.d 10 10
  have F__law_short : Fd K mg "_law_short" s__law_short := fd_of X G c.t.d 11 11
  have F__law_sign : Fd K mg "_law_sign" s__law_sign := fd_of X G c.t.d 12 12
  have F__law_rest : Fd K mg "_law_rest" s__law_rest := fd_of X G c.t.d 13 13
  have F__law_signs : Fd K mg "_law_signs" s__law_signs := fd_of X G c.t.d 14 14
  have F__law_longer : Fd K mg "_law_longer" s__law_longer := fd_of X G c.t.d 15 15
  have F__law_room : Fd K mg "_law_room" s__law_room := fd_of X G c.t.d 16 16
  have F__law_flow_said : Fd K mg "_law_flow_said" s__law_flow_said := fd_of X G c.t.d 17 17
  have F__law_same : Fd K mg "_law_same" s__law_same := fd_of X G c.t.d 18 18
  have F__law_moved : Fd K mg "_law_moved" s__law_moved := fd_of X G c.t.d 19 19
  have F__law_letters_asked : Fd K mg "_law_letters_asked" s__law_letters_asked := fd_of X G c.t.d 20 20
  have F__law_parts_asked : Fd K mg "_law_parts_asked" s__law_parts_asked := fd_of X G c.t.d 21 21
  have F__law_unlike_asked : Fd K mg "_law_unlike_asked" s__law_unlike_asked := fd_of X G c.t.d 22 22
  have F__law_refused_here : FdL K mg "_law_refused_here" s__law_refused_here := fdL_of X G c.t.d 23 23
  have F__law_box : Fd K mg "_law_box" s__law_box := fd_of X G c.t.d 24 24
  obtain ⟨fd, F⟩ := c.t.d.def_ 25 (d := defD "law" s_law) rfl
  have e := hfa.symm.trans (He.glo_ok X G (c.t.d.fact 25 (f := .glo "law") rfl))
  cases e
  have b := FunD.bindsA (ps := ["script"]) F fun _ _ _ _ _ _ us hl => match us, hl with | [_], _ => rfl
  refine ⟨fd, fun s v => b s [v] rfl, fun base _ _ hT => ?_⟩
  have x_BadStream : Xc P w K mg base "BadStream" ["item", "why"] := by
    obtain ⟨fdi, FI⟩ := FI_BadStream
    exact xc2 (allB_at c.more 0 (x := madeB "BadStream")) (GM "BadStream" (by decide)) (T.fld ("BadStream", ["item", "why"]) (by decide) "item" (by decide)) (T.fld ("BadStream", ["item", "why"]) (by decide) "why" (by decide)) FI sI_BadStream (fun _ _ _ _ _ _ us hl => match us, hl with | [_, _, _], _ => rfl) (fun C f cdv A outer s H E => pss_cons (ps_ost (pe_var (i := 0) rfl (Or.inl rfl)) (pe_var (i := 1) rfl (Or.inl rfl))) (pss_one (ps_ost (pe_var (i := 0) rfl (Or.inl rfl)) (pe_var (i := 2) rfl (Or.inl rfl)))))
  have c_letter_count := d_letter_count (P := P) (w := w) (base := base) F_letter_count B 
  have c_shortest_writing := d_shortest_writing (P := P) (w := w) (base := base) F_shortest_writing B 
  have c_digit_at := d_digit_at (P := P) (w := w) (base := base) F_digit_at B 
  obtain ⟨fd1, F1⟩ := c.t.d.def_ 26 (d := iniD "Stream" s_Stream___init__) rfl
  have c_Stream___init__ := d_Stream___init__ (P := P) (w := w) (base := base) F1 (mkB_ok (allB_at c.more 6)) (He.glo_ok X G (c.t.d.fact 26)) B c_letter_count c_shortest_writing x_BadStream
  obtain ⟨fd1, F1⟩ := c.t.d.def_ 27 (d := metD "Stream" "__eq__" s_Stream___eq__) rfl
  have c_Stream___eq__ := d_Stream___eq__ (P := P) (w := w) (base := base) F1 (clsB_ok (allB_at c.more 5)).1 (methB_ok (allB_at c.more 7) (by decide)) B
  obtain ⟨fd1, F1⟩ := c.t.d.def_ 28 (d := metD "Stream" "letter" s_Stream_letter) rfl
  have c_Stream_letter := d_Stream_letter (P := P) (w := w) (base := base) F1 (clsB_ok (allB_at c.more 5)).1 (methB_ok (allB_at c.more 7) (by decide)) B c_digit_at
  obtain ⟨fd1, F1⟩ := c.t.d.def_ 29 (d := metD "Stream" "upto" s_Stream_upto) rfl
  have c_Stream_upto := d_Stream_upto (P := P) (w := w) (base := base) F1 (clsB_ok (allB_at c.more 5)).1 (methB_ok (allB_at c.more 7) (by decide)) B c_Stream_letter
  obtain ⟨fd1, F1⟩ := c.t.d.def_ 30 (d := metD "Stream" "rest" s_Stream_rest) rfl
  have c_Stream_rest := d_Stream_rest (P := P) (w := w) (base := base) F1 (clsB_ok (allB_at c.more 5)).1 (methB_ok (allB_at c.more 7) (by decide)) B c_Stream___init__
  obtain ⟨fd1, F1⟩ := c.t.d.def_ 31 (d := metD "Stream" "prefixed" s_Stream_prefixed) rfl
  have c_Stream_prefixed := d_Stream_prefixed (P := P) (w := w) (base := base) F1 (clsB_ok (allB_at c.more 5)).1 (methB_ok (allB_at c.more 7) (by decide)) B c_Stream___init__
  obtain ⟨fd1, F1⟩ := c.t.d.def_ 32 (d := metD "Stream" "text" s_Stream_text) rfl
  have c_Stream_text := d_Stream_text (P := P) (w := w) (base := base) F1 (clsB_ok (allB_at c.more 5)).1 (methB_ok (allB_at c.more 7) (by decide)) B
  obtain ⟨fd1, F1⟩ := c.t.d.def_ 33 (d := metD "Stream" "__repr__" s_Stream___repr__) rfl
  have c_Stream___repr__ := d_Stream___repr__ (P := P) (w := w) (base := base) F1 (clsB_ok (allB_at c.more 5)).1 (methB_ok (allB_at c.more 7) (by decide)) B c_Stream_text
  have c__law_draw := d__law_draw (P := P) (w := w) (base := base) F__law_draw B 
  have c__law_of := d__law_of (P := P) (w := w) (base := base) F__law_of B c__law_draw
  have c__law_like := d__law_like (P := P) (w := w) (base := base) F__law_like B  6
  have c__law_classes := d__law_classes (P := P) (w := w) (base := base) F__law_classes B MF
  have c__law_why := d__law_why (P := P) (w := w) (base := base) F__law_why B T
  have c__law_caught := d__law_caught (P := P) (w := w) (base := base) F__law_caught B c__law_classes T
  have c__law_tried := d__law_tried (P := P) (w := w) (base := base) F__law_tried B c__law_caught c__law_why T TS
  have c__law_refused := d__law_refused (P := P) (w := w) (base := base) F__law_refused B c__law_like c__law_tried
  have c__law_short := d__law_short (P := P) (w := w) (base := base) F__law_short B 
  have c__law_sign := d__law_sign (P := P) (w := w) (base := base) F__law_sign B 
  have c__law_rest := d__law_rest (P := P) (w := w) (base := base) F__law_rest B c__law_short
  have c__law_signs := d__law_signs (P := P) (w := w) (base := base) F__law_signs B c__law_draw
  have c__law_longer := d__law_longer (P := P) (w := w) (base := base) F__law_longer B c__law_draw
  have c__law_room := d__law_room (P := P) (w := w) (base := base) F__law_room B c__law_draw
  have c__law_flow_said := d__law_flow_said (P := P) (w := w) (base := base) F__law_flow_said B 
  have c__law_same := d__law_same (P := P) (w := w) (base := base) F__law_same B c_Stream___repr__ c_Stream_text c__law_like c__law_short c__law_flow_said
  have c__law_moved := d__law_moved (P := P) (w := w) (base := base) F__law_moved B c__law_sign c__law_rest
  have c__law_letters_asked := d__law_letters_asked (P := P) (w := w) (base := base) F__law_letters_asked B c_Stream_letter c_Stream_upto c__law_draw c__law_like c__law_sign
  have c__law_parts_asked := d__law_parts_asked (P := P) (w := w) (base := base) F__law_parts_asked B c_Stream___eq__ c_Stream_prefixed c_Stream_rest c_Stream_upto c__law_draw c__law_rest c__law_signs c__law_same
  have c__law_unlike_asked := d__law_unlike_asked (P := P) (w := w) (base := base) F__law_unlike_asked B c_Stream___eq__ c_Stream___init__ c_Stream___repr__ c_Stream_text c__law_draw c__law_sign c__law_same c__law_moved
  have c__law_refused_here := d__law_refused_here (P := P) (w := w) (base := base) F__law_refused_here B (hT ("_law_refused_here", none) (by decide)) nd c_Stream___init__ c__law_draw c__law_of c__law_refused
  have c__law_box := d__law_box (P := P) (w := w) (base := base) F__law_box B 
  exact d_law F B c__law_box c_Stream___eq__ c_Stream___init__ c__law_draw c__law_like c__law_signs c__law_longer c__law_room c__law_same c__law_letters_asked c__law_parts_asked c__law_unlike_asked c__law_refused_here hm
end K03
section
open PySem PySem.W PySem.Calls PyProof.Rows
theorem head_of (hm : ∀ ns : List Int, ns.length ≤ 63 → DL.lawR 13 K03.b_law ns) : PySem.Challenge.rw_bendless_k03_streams_in_shortest_writing.Holds := by
  w_on; o_law
  refine HandSHeadRun.head_imp (r := OpenLaw.row PySem.Challenge.rw_bendless_k03_streams_in_shortest_writing) (q := view (OpenLaw.row PySem.Challenge.rw_bendless_k03_streams_in_shortest_writing).prog [0, 64]) (H := K03.hk) (ob := K03.ob) (M := 12000) (loose := K03.loose) (d := HandSHeadRun.topDef (OpenLaw.row PySem.Challenge.rw_bendless_k03_streams_in_shortest_writing).prog 64) (kwd := []) K03.ob_eq
    K03.run (by kernel_rfl) (by kernel_rfl) (by kernel_rfl) (by rfl) (by first | assumption | decide +kernel) (by decide +kernel) ⟨rfl, rfl, rfl, rfl, rfl, by decide +kernel⟩ ?hw ?hc
  case hw => w_witness2
  case hc =>
    refine LamX.walk_ofTsE (l := PySem.Challenge.rw_bendless_k03_streams_in_shortest_writing) (n := 63) (k := 17) (x := "script") (CX := fun w => L2N.CX (PySem.Challenge.rw_bendless_k03_streams_in_shortest_writing).prog w) rfl (by decide) (by kernel_rfl) ⟨rfl, by decide, by decide⟩ ?F ?hCX
    case F =>
      intro w mg fa h Y G hmg0
      obtain ⟨K, KX, c⟩ := Y
      have hmg : mg ("law" : PySem.Str) = some (.ref fa) := by
        have e : (HandSHeadRun.topDef (OpenLaw.row PySem.Challenge.rw_bendless_k03_streams_in_shortest_writing).prog 64).name = ("law" : PySem.Str) := by kernel_rfl
        rw [← e]
        exact hmg0
      exact ⟨K, KX, DL.lawAt KX (by decide) c.x (K03.facts (P := (PySem.Challenge.rw_bendless_k03_streams_in_shortest_writing).prog) (w := w) KX G hmg c.x c.a hm)⟩
    case hCX =>
      intro w H s e s' h
      obtain ⟨_, _, _, _, _, _, _, _, _, _, _, _, z⟩ := h
      exact z.elim
end

set_option Elab.async false
set_option linter.all false
namespace K03
/-! ### rings: what repeats, what is primitive (plain lists) -/
variable {α : Type}
def per (p : List α) (d : Nat) : Prop := ∀ i, p[(i + d) % p.length]? = p[i % p.length]?
def rot (c : Nat) (p : List α) : List α := p.drop c ++ p.take c
def repl (q : List α) (k : Nat) : List α := (List.replicate k q).flatten
def prim (q : List α) : Prop := ∀ d, 1 ≤ d → d ∣ q.length → per q d → d = q.length
theorem rot_len (c : Nat) (p : List α) : (rot c p).length = p.length := by
  unfold rot
  rw [List.length_append, List.length_drop, List.length_take]
  omega
theorem rot_get {c i : Nat} {p : List α} (hc : c ≤ p.length) (hi : i < p.length) : (rot c p)[i]? = p[(i + c) % p.length]? := by
  unfold rot
  by_cases h : i < p.length - c
  · rw [List.getElem?_append_left (by simpa using h), List.getElem?_drop, Nat.mod_eq_of_lt (by omega), Nat.add_comm]
  · rw [List.getElem?_append_right (by simp; omega), List.length_drop, List.getElem?_take]
    have e : (i + c) % p.length = i - (p.length - c) := by
      rw [Nat.mod_eq_sub_mod (by omega), Nat.mod_eq_of_lt (by omega)]
      omega
    rw [e, if_pos (by omega)]
theorem rot_per {c d : Nat} {p : List α} (hc : c ≤ p.length) (h : per p d) : per (rot c p) d := fun i => by
  rw [rot_len]
  by_cases hn : p.length = 0
  · have : p = [] := List.eq_nil_of_length_eq_zero hn
    subst this
    have e : rot c ([] : List α) = [] := by
      unfold rot
      rw [List.drop_nil, List.take_nil]
      rfl
    rw [e, List.getElem?_nil, List.getElem?_nil]
  · have hp : 0 < p.length := by omega
    rw [rot_get hc (Nat.mod_lt _ hp), rot_get hc (Nat.mod_lt _ hp), Nat.mod_add_mod, Nat.mod_add_mod]
    have := h (i + c)
    rw [show i + d + c = i + c + d by omega]
    exact this
theorem rot_back {c : Nat} {p : List α} (hc : c ≤ p.length) : rot (p.length - c) (rot c p) = p := by
  apply List.ext_getElem?
  intro i
  by_cases hi : i < p.length
  · rw [rot_get (by rw [rot_len]; omega) (by rw [rot_len]; exact hi), rot_len, rot_get hc (Nat.mod_lt _ (by omega)), Nat.mod_add_mod, show i + (p.length - c) + c = i + p.length by omega, Nat.add_mod_right, Nat.mod_eq_of_lt hi]
  · rw [List.getElem?_eq_none (by rw [rot_len, rot_len]; omega), List.getElem?_eq_none (by omega)]
theorem rot_prim {c : Nat} {p : List α} (hc : c ≤ p.length) (h : prim p) : prim (rot c p) := fun d h1 h2 h3 => by
  rw [rot_len] at h2 ⊢
  refine h d h1 h2 ?_
  have := rot_per (c := p.length - c) (by rw [rot_len]; omega) h3
  rwa [rot_back hc] at this
theorem repl_succ (q : List α) (k : Nat) : repl q (k + 1) = q ++ repl q k := by
  unfold repl
  rw [List.replicate_succ, List.flatten_cons]
theorem repl_len (q : List α) (k : Nat) : (repl q k).length = k * q.length := by
  induction k with
  | zero => simp [repl]
  | succ k ih => rw [repl_succ, List.length_append, ih, Nat.succ_mul]; omega
theorem repl_get (q : List α) (k i : Nat) (hi : i < k * q.length) : (repl q k)[i]? = q[i % q.length]? := by
  induction k generalizing i with
  | zero => omega
  | succ k ih =>
    rw [repl_succ]
    by_cases h : i < q.length
    · rw [List.getElem?_append_left h, Nat.mod_eq_of_lt h]
    · rw [Nat.succ_mul] at hi
      rw [List.getElem?_append_right (by omega), ih _ (by omega), ← Nat.mod_eq_sub_mod (by omega)]
theorem per_mul {p : List α} {d : Nat} (h : per p d) (j k : Nat) : p[(j + d * k) % p.length]? = p[j % p.length]? := by
  induction k with
  | zero => rfl
  | succ k ih => rw [Nat.mul_succ, ← Nat.add_assoc, h, ih]
theorem repl_per {p : List α} {d : Nat} (h1 : 1 ≤ d) (h2 : d ∣ p.length) (hp : 0 < p.length) : repl (p.take d) (p.length / d) = p ↔ per p d := by
  have hd : d ≤ p.length := Nat.le_of_dvd hp h2
  have hl : (p.take d).length = d := by rw [List.length_take]; omega
  have hm : p.length / d * d = p.length := Nat.div_mul_cancel h2
  constructor
  · intro e i
    have g : ∀ j, p[j % p.length]? = (p.take d)[j % d]? := fun j => by
      have := repl_get (p.take d) (p.length / d) (j % p.length) (by rw [hl, hm]; exact Nat.mod_lt _ hp)
      rw [e, hl, Nat.mod_mod_of_dvd _ h2] at this
      exact this
    rw [g, g, Nat.add_mod_right]
  · intro h
    apply List.ext_getElem?
    intro i
    by_cases hi : i < p.length
    · rw [repl_get _ _ _ (by rw [hl, hm]; exact hi), hl, List.getElem?_take, if_pos (Nat.mod_lt _ h1)]
      have := per_mul h (i % d) (i / d)
      rw [Nat.mod_add_div, Nat.mod_eq_of_lt hi, Nat.mod_eq_of_lt (a := i % d) (by have := Nat.mod_le i d; omega)] at this
      exact this.symm
    · rw [List.getElem?_eq_none (by rw [repl_len, hl, hm]; omega), List.getElem?_eq_none (by omega)]
theorem per_take {p : List α} {l : Nat} (h1 : 1 ≤ l) (h2 : l ∣ p.length) (hp : 0 < p.length) (h : per p l) (j : Nat) : p[j % p.length]? = (p.take l)[j % l]? := by
  have hl : l ≤ p.length := Nat.le_of_dvd hp h2
  rw [List.getElem?_take, if_pos (Nat.mod_lt _ h1)]
  have := per_mul h (j % l) (j / l)
  rw [Nat.mod_add_div] at this
  rw [this, Nat.mod_eq_of_lt (a := j % l) (by have := Nat.mod_lt j (show l > 0 from h1); omega)]
theorem prim_take {p : List α} {l : Nat} (h1 : 1 ≤ l) (h2 : l ∣ p.length) (hp : 0 < p.length) (h : per p l) (low : ∀ d, 1 ≤ d → d < l → d ∣ p.length → ¬per p d) : prim (p.take l) := fun d hd hv hq => by
  have hl : (p.take l).length = l := by rw [List.length_take]; have := Nat.le_of_dvd hp h2; omega
  rw [hl] at hv ⊢
  have hle : d ≤ l := Nat.le_of_dvd h1 hv
  by_cases hlt : d < l
  · refine absurd (fun i => ?_) (low d hd hlt (Nat.dvd_trans hv h2))
    rw [per_take h1 h2 hp h, per_take h1 h2 hp h]
    have := hq i
    rw [hl] at this
    exact this
  · omega
end K03

set_option Elab.async false
set_option linter.all false
namespace K03
/-! ### the shortest writing of a stream, and that it is its own shortest writing -/
def leastF (P : Nat → Bool) : Nat → Nat → Nat
  | 0, l => l
  | n + 1, l => if P l then l else leastF P n (l + 1)
theorem leastF_ge (P : Nat → Bool) (n l : Nat) : l ≤ leastF P n l ∧ leastF P n l ≤ l + n := by
  induction n generalizing l with
  | zero => exact ⟨Nat.le_refl _, Nat.le_refl _⟩
  | succ n ih =>
    unfold leastF
    split
    · omega
    · have := ih (l + 1); omega
theorem leastF_low (P : Nat → Bool) (n l d : Nat) (h1 : l ≤ d) (h2 : d < leastF P n l) : P d = false := by
  induction n generalizing l with
  | zero => unfold leastF at h2; omega
  | succ n ih =>
    unfold leastF at h2
    split at h2
    · omega
    · rename_i hp
      by_cases h : l = d
      · subst h; simpa using hp
      · exact ih (l + 1) (by omega) h2
theorem leastF_ok (P : Nat → Bool) (n l : Nat) (h : leastF P n l < l + n) : P (leastF P n l) = true := by
  induction n generalizing l with
  | zero => have := (leastF_ge P 0 l).1; omega
  | succ n ih =>
    unfold leastF at h ⊢
    split
    · rename_i hp; exact hp
    · rename_i hp
      rw [if_neg hp] at h
      exact ih (l + 1) (by omega)
theorem leastF_of (P : Nat → Bool) (n l d : Nat) (h1 : l ≤ d) (h2 : d ≤ l + n) (h3 : d < l + n → P d = true) (h4 : ∀ e, l ≤ e → e < d → P e = false) : leastF P n l = d := by
  have g := leastF_ge P n l
  by_cases a : leastF P n l < d
  · have := leastF_ok P n l (by omega)
    rw [h4 _ g.1 a] at this
    cases this
  · by_cases b : d < leastF P n l
    · have := leastF_low P n l d h1 b
      rw [h3 (by omega)] at this
      cases this
    · omega
def spnB (p : List Int) (l : Nat) : Bool := decide (p.length % l = 0) && decide (repl (p.take l) (p.length / l) = p)
def spn (p : List Int) : Nat := leastF (spnB p) (p.length - 1) 1
def tkB (h q : List Int) (t : Nat) : Bool := !decide (h[h.length - 1 - t]? = q[q.length - 1 - t % q.length]?)
def tk (h q : List Int) : Nat := leastF (tkB h q) h.length 0
def sht (h p : List Int) : List Int × List Int :=
  (h.take (h.length - tk h (p.take (spn p))), rot ((p.take (spn p)).length - tk h (p.take (spn p)) % (p.take (spn p)).length) (p.take (spn p)))
theorem repl_one (q : List Int) : repl q 1 = q := by
  rw [repl_succ]
  unfold repl
  rw [List.replicate_zero, List.flatten_nil, List.append_nil]
theorem spnB_iff {p : List Int} {l : Nat} (h1 : 1 ≤ l) (hp : 0 < p.length) : spnB p l = true ↔ l ∣ p.length ∧ per p l := by
  unfold spnB
  rw [Bool.and_eq_true, decide_eq_true_eq, decide_eq_true_eq, ← Nat.dvd_iff_mod_eq_zero]
  exact ⟨fun ⟨a, b⟩ => ⟨a, (repl_per h1 a hp).mp b⟩, fun ⟨a, b⟩ => ⟨a, (repl_per h1 a hp).mpr b⟩⟩
theorem spn_ok {p : List Int} (hp : 0 < p.length) : 1 ≤ spn p ∧ spn p ∣ p.length ∧ per p (spn p) ∧ spn p ≤ p.length := by
  have g := leastF_ge (spnB p) (p.length - 1) 1
  have h1 : 1 ≤ spn p := g.1
  have hle : spn p ≤ p.length := by have : spn p ≤ 1 + (p.length - 1) := g.2; omega
  by_cases a : spn p < 1 + (p.length - 1)
  · obtain ⟨b, c⟩ := (spnB_iff h1 hp).mp (leastF_ok _ _ _ a)
    exact ⟨h1, b, c, hle⟩
  · have e : spn p = p.length := by omega
    refine ⟨h1, ⟨1, by rw [e, Nat.mul_one]⟩, fun i => ?_, hle⟩
    rw [e, Nat.add_mod_right]
theorem spn_prim {p : List Int} (hp : 0 < p.length) : prim (p.take (spn p)) := by
  obtain ⟨h1, h2, h3, _⟩ := spn_ok hp
  refine prim_take h1 h2 hp h3 fun d hd hlt hv hq => ?_
  have := leastF_low (spnB p) (p.length - 1) 1 d hd hlt
  rw [(spnB_iff hd hp).mpr ⟨hv, hq⟩] at this
  cases this
theorem spn_of_prim {q : List Int} (hp : 0 < q.length) (h : prim q) : spn q = q.length := by
  obtain ⟨h1, h2, h3, _⟩ := spn_ok hp
  exact h _ h1 h2 h3
theorem sht_idem {h p : List Int} (hp : 0 < p.length) : sht (sht h p).1 (sht h p).2 = sht h p := by
  obtain ⟨h1, h2, h3, h4⟩ := spn_ok hp
  have hq := spn_prim hp
  have hl : (p.take (spn p)).length = spn p := by rw [List.length_take]; omega
  generalize eq : p.take (spn p) = q at hq hl
  have hs : sht h p = (h.take (h.length - tk h q), rot (q.length - tk h q % q.length) q) := by unfold sht; rw [eq]
  have hq0 : 0 < q.length := by omega
  have ht := leastF_ge (tkB h q) h.length 0
  have hstop : tk h q < h.length → tkB h q (tk h q) = true := fun z => leastF_ok (tkB h q) h.length 0 (by simpa [tk] using z)
  have htl : tk h q ≤ h.length := by have : tk h q ≤ 0 + h.length := ht.2; omega
  generalize tk h q = t at hs hstop htl
  rw [hs]
  generalize er : rot (q.length - t % q.length) q = r
  have hc : q.length - t % q.length ≤ q.length := Nat.sub_le _ _
  have hr : prim r := er ▸ rot_prim hc hq
  have rl : r.length = q.length := by rw [← er, rot_len]
  have hr0 : 0 < r.length := by omega
  have hsp := spn_of_prim hr0 hr
  have htk : tk (h.take (h.length - t)) r = 0 := by
    refine leastF_of _ _ _ _ (Nat.le_refl _) (Nat.zero_le _) (fun z => ?_) fun e _ he => absurd he (Nat.not_lt_zero _)
    rw [List.length_take] at z
    have z : t < h.length := by omega
    have w := hstop z
    unfold tkB at w ⊢
    rw [Bool.not_eq_true', decide_eq_false_iff_not] at w ⊢
    intro e
    apply w
    have hm := Nat.mod_lt t hq0
    have lt : (h.take (h.length - t)).length = h.length - t := by rw [List.length_take]; omega
    rw [lt, rl, Nat.zero_mod, Nat.sub_zero, Nat.sub_zero, List.getElem?_take, if_pos (by omega)] at e
    rw [← er, rot_get hc (by omega)] at e
    rw [show h.length - 1 - t = h.length - t - 1 by omega, e]
    congr 1
    rw [show q.length - 1 + (q.length - t % q.length) = (q.length - 1 - t % q.length) + q.length by omega, Nat.add_mod_right, Nat.mod_eq_of_lt (by omega)]
  unfold sht
  rw [hsp, List.take_length, htk, Nat.zero_mod, Nat.sub_zero, Nat.sub_zero, List.take_length]
  refine Prod.ext rfl ?_
  show rot r.length r = r
  unfold rot
  rw [List.drop_length, List.take_length, List.nil_append]
end K03

set_option Elab.async false
set_option linter.all false
namespace K03
/-! ### the sequence that a head and a period write; the shortest writing is one of the sequence -/
def sg (h p : List Int) (n : Nat) : Option Int := if n < h.length then h[n]? else p[(n - h.length) % p.length]?
theorem ar1 {s t j : Nat} (hs : 0 < s) (h : j < t) : (t - 1 - j + (s - t % s)) % s = s - 1 - j % s := by
  have et := Nat.div_add_mod t s
  have ej := Nat.div_add_mod j s
  have r := Nat.mod_lt t hs
  have e := Nat.mod_lt j hs
  have k : t - 1 - j + (s - t % s) + s * (j / s) = (s - 1 - j % s) + s * (t / s) := by
    generalize s * (t / s) = A at *
    generalize s * (j / s) = B at *
    omega
  have : (t - 1 - j + (s - t % s) + s * (j / s)) % s = (t - 1 - j + (s - t % s)) % s := Nat.add_mul_mod_self_left ..
  rw [← this, k, Nat.add_mul_mod_self_left, Nat.mod_eq_of_lt (by omega)]
theorem ar2 {s t m : Nat} (hs : 0 < s) (h : t ≤ m) : (m + (s - t % s)) % s = (m - t) % s := by
  have et := Nat.div_add_mod t s
  have r := Nat.mod_lt t hs
  have k : m + (s - t % s) = (m - t) + s * (t / s + 1) := by
    rw [Nat.mul_add, Nat.mul_one]
    generalize s * (t / s) = A at *
    omega
  rw [k, Nat.add_mul_mod_self_left]
theorem sg_sht {h p : List Int} (hp : 0 < p.length) (n : Nat) : sg (sht h p).1 (sht h p).2 n = sg h p n := by
  obtain ⟨h1, h2, h3, h4⟩ := spn_ok hp
  have hl : (p.take (spn p)).length = spn p := by rw [List.length_take]; omega
  have e0 : sg h p n = sg h (p.take (spn p)) n := by
    unfold sg
    split
    · rfl
    · rw [per_take h1 h2 hp h3, hl]
  rw [e0]
  generalize eq : p.take (spn p) = q at hl
  have hs : sht h p = (h.take (h.length - tk h q), rot (q.length - tk h q % q.length) q) := by unfold sht; rw [eq]
  have hq0 : 0 < q.length := by omega
  have ht := leastF_ge (tkB h q) h.length 0
  have hlow : ∀ j, j < tk h q → tkB h q j = false := fun j hj => leastF_low (tkB h q) h.length 0 j (Nat.zero_le _) hj
  have htl : tk h q ≤ h.length := by have : tk h q ≤ 0 + h.length := ht.2; omega
  generalize tk h q = t at hs hlow htl
  rw [hs]
  have lt : (h.take (h.length - t)).length = h.length - t := by rw [List.length_take]; omega
  have hc : q.length - t % q.length ≤ q.length := Nat.sub_le _ _
  show sg (h.take (h.length - t)) (rot (q.length - t % q.length) q) n = _
  unfold sg
  rw [lt, rot_len]
  by_cases c1 : n < h.length - t
  · rw [if_pos c1, if_pos (by omega), List.getElem?_take, if_pos c1]
  · rw [if_neg c1, rot_get hc (Nat.mod_lt _ hq0), Nat.mod_add_mod]
    by_cases c2 : n < h.length
    · rw [if_pos c2]
      have hj := hlow (h.length - 1 - n) (by omega)
      unfold tkB at hj
      rw [Bool.not_eq_false', decide_eq_true_eq] at hj
      rw [show h.length - 1 - (h.length - 1 - n) = n by omega] at hj
      rw [hj, show n - (h.length - t) = t - 1 - (h.length - 1 - n) by omega, ar1 hq0 (by omega)]
    · rw [if_neg c2, ar2 hq0 (by omega), show n - (h.length - t) - t = n - h.length by omega]
/-- written shortest -/
structure can (h p : List Int) : Prop where
  pos : 0 < p.length
  pr : prim p
  end_ : ∀ a, h[h.length - 1]? = some a → p[p.length - 1]? ≠ some a
theorem sht_can {h p : List Int} (hp : 0 < p.length) : can (sht h p).1 (sht h p).2 := by
  obtain ⟨h1, h2, h3, h4⟩ := spn_ok hp
  have hq := spn_prim hp
  have hl : (p.take (spn p)).length = spn p := by rw [List.length_take]; omega
  generalize eq : p.take (spn p) = q at hq hl
  have hs : sht h p = (h.take (h.length - tk h q), rot (q.length - tk h q % q.length) q) := by unfold sht; rw [eq]
  have hq0 : 0 < q.length := by omega
  have ht := leastF_ge (tkB h q) h.length 0
  have hstop : tk h q < h.length → tkB h q (tk h q) = true := fun z => leastF_ok (tkB h q) h.length 0 (by simpa [tk] using z)
  have htl : tk h q ≤ h.length := by have : tk h q ≤ 0 + h.length := ht.2; omega
  generalize tk h q = t at hs hstop htl
  rw [hs]
  have lt : (h.take (h.length - t)).length = h.length - t := by rw [List.length_take]; omega
  have hc : q.length - t % q.length ≤ q.length := Nat.sub_le _ _
  refine ⟨by show 0 < (rot _ q).length; rw [rot_len]; exact hq0, rot_prim hc hq, fun a ha hb => ?_⟩
  have ha : (h.take (h.length - t))[(h.take (h.length - t)).length - 1]? = some a := ha
  have hb : (rot (q.length - t % q.length) q)[(rot (q.length - t % q.length) q).length - 1]? = some a := hb
  rw [lt, List.getElem?_take] at ha
  split at ha
  · rename_i z
    have hn : t < h.length := by omega
    have w := hstop hn
    unfold tkB at w
    rw [Bool.not_eq_true', decide_eq_false_iff_not] at w
    apply w
    rw [rot_len, rot_get hc (by omega)] at hb
    have hm := Nat.mod_lt t hq0
    rw [show q.length - 1 + (q.length - t % q.length) = (q.length - 1 - t % q.length) + q.length by omega, Nat.add_mod_right, Nat.mod_eq_of_lt (by omega)] at hb
    rw [hb, show h.length - 1 - t = h.length - t - 1 by omega, ha]
  · cases ha
/-! two periods have their greatest common divisor as a period -/
theorem per_gcd {f : Nat → Option Int} (a b : Nat) : (∀ i, f (i + a) = f i) → (∀ i, f (i + b) = f i) → ∀ i, f (i + Nat.gcd a b) = f i := by
  induction a, b using Nat.gcd.induction with
  | H0 n => intro _ hb; rw [Nat.gcd_zero_left]; exact hb
  | H1 m n hm ih =>
    intro ha hb
    rw [Nat.gcd_rec]
    have mul : ∀ k i, f (i + m * k) = f i := fun k => by
      induction k with
      | zero => intro i; rfl
      | succ k ik => intro i; rw [Nat.mul_succ, ← Nat.add_assoc, ha, ik]
    refine ih (fun i => ?_) ha
    have := mul (n / m) (i + n % m)
    rw [Nat.add_assoc, Nat.mod_add_div, hb] at this
    exact this.symm
theorem prim_eq {p q : List Int} (hp : 0 < p.length) (hq : 0 < q.length) (pp : prim p) (pq : prim q) (h : ∀ i, p[i % p.length]? = q[i % q.length]?) : p = q := by
  have f1 : ∀ i, (fun i => p[i % p.length]?) (i + p.length) = (fun i => p[i % p.length]?) i := fun i => by simp
  have f2 : ∀ i, (fun i => p[i % p.length]?) (i + q.length) = (fun i => p[i % p.length]?) i := fun i => by
    show p[(i + q.length) % p.length]? = p[i % p.length]?
    rw [h, h, Nat.add_mod_right]
  have g := per_gcd (f := fun i => p[i % p.length]?) _ _ f1 f2
  have gp : 1 ≤ Nat.gcd p.length q.length := Nat.gcd_pos_of_pos_left _ hp
  have e1 := pp _ gp (Nat.gcd_dvd_left ..) g
  have e2 := pq _ gp (Nat.gcd_dvd_right ..) fun i => by rw [← h, ← h]; exact g i
  have el : p.length = q.length := e1.symm.trans e2
  apply List.ext_getElem?
  intro i
  by_cases hi : i < p.length
  · have := h i
    rw [Nat.mod_eq_of_lt hi, Nat.mod_eq_of_lt (by omega)] at this
    exact this
  · rw [List.getElem?_eq_none (by omega), List.getElem?_eq_none (by omega)]
theorem can_le {h p k q : List Int} (c : can h p) (d : can k q) (e : ∀ n, sg h p n = sg k q n) (hl : h.length ≤ k.length) : h = k ∧ p = q := by
  have hp := c.pos
  have hm := Nat.mod_lt (k.length - h.length) hp
  have hc : (k.length - h.length) % p.length ≤ p.length := Nat.le_of_lt hm
  have er : rot ((k.length - h.length) % p.length) p = q := by
    refine prim_eq (by rw [rot_len]; exact hp) d.pos (rot_prim hc c.pr) d.pr fun i => ?_
    have := e (i + k.length)
    unfold sg at this
    rw [if_neg (by omega), if_neg (by omega), show i + k.length - k.length = i by omega, show i + k.length - h.length = i + (k.length - h.length) by omega] at this
    rw [rot_len, rot_get hc (Nat.mod_lt _ hp), ← this, Nat.mod_add_mod, Nat.add_mod_mod]
  by_cases z : h.length = k.length
  · have ep : p = q := by
      rw [← er, z, Nat.sub_self, Nat.zero_mod]
      unfold rot
      simp
    refine ⟨?_, ep⟩
    apply List.ext_getElem?
    intro i
    by_cases hi : i < h.length
    · have := e i
      unfold sg at this
      rwa [if_pos hi, if_pos (by omega)] at this
    · rw [List.getElem?_eq_none (by omega), List.getElem?_eq_none (by omega)]
  · exfalso
    have hk : k.length - 1 < k.length := by omega
    have e1 := e (k.length - 1)
    unfold sg at e1
    rw [if_neg (by omega), if_pos hk] at e1
    have e2 : q[q.length - 1]? = k[k.length - 1]? := by
      rw [← e1, ← er, rot_len, rot_get hc (by omega)]
      congr 1
      rw [Nat.add_mod_mod, show p.length - 1 + (k.length - h.length) = (k.length - 1 - h.length) + p.length by omega, Nat.add_mod_right]
    cases ha : k[k.length - 1]? with
    | none => rw [List.getElem?_eq_none_iff] at ha; omega
    | some a => exact d.end_ a ha (by rw [e2, ha])
theorem can_eq {h p k q : List Int} (c : can h p) (d : can k q) (e : ∀ n, sg h p n = sg k q n) : h = k ∧ p = q := by
  rcases Nat.le_total h.length k.length with z | z
  · exact can_le c d e z
  · obtain ⟨a, b⟩ := can_le d c (fun n => (e n).symm) z
    exact ⟨a.symm, b.symm⟩
theorem sht_eq {h p k q : List Int} (hp : 0 < p.length) (hq : 0 < q.length) (e : ∀ n, sg h p n = sg k q n) : sht h p = sht k q := by
  obtain ⟨a, b⟩ := can_eq (sht_can (h := h) hp) (sht_can (h := k) hq) fun n => by rw [sg_sht hp, sg_sht hq]; exact e n
  exact Prod.ext a b
theorem sht_ne {h p k q : List Int} (hp : 0 < p.length) (hq : 0 < q.length) {n : Nat} (e : sg h p n ≠ sg k q n) : sht h p ≠ sht k q := fun z => e (by rw [← sg_sht hp, ← sg_sht hq, z])
/-! ### other writings -/
theorem sg_at {h p : List Int} (hp : 0 < p.length) (n : Nat) : ∃ a, sg h p n = some a ∧ (a ∈ h ∨ a ∈ p) := by
  unfold sg
  split
  · rename_i z
    exact ⟨h[n], List.getElem?_eq_getElem z, .inl (List.getElem_mem z)⟩
  · have z := Nat.mod_lt (n - h.length) hp
    exact ⟨_, List.getElem?_eq_getElem z, .inr (List.getElem_mem z)⟩
/-- the first letters -/
def fsI (h p : List Int) (n : Nat) : List Int := (List.range n).map fun i => (sg h p i).getD 0
theorem fsI_len (h p : List Int) (n : Nat) : (fsI h p n).length = n := by unfold fsI; simp
theorem fsI_get {h p : List Int} (hp : 0 < p.length) {n i : Nat} (hi : i < n) : (fsI h p n)[i]? = sg h p i := by
  obtain ⟨a, ha, _⟩ := sg_at (h := h) hp i
  unfold fsI
  rw [List.getElem?_map, List.getElem?_range hi, ha]
  simp [ha]
theorem fsI_mem {h p : List Int} (hp : 0 < p.length) {n : Nat} {a : Int} (ha : a ∈ fsI h p n) : a ∈ h ∨ a ∈ p := by
  obtain ⟨i, hi⟩ := List.getElem?_of_mem ha
  have hl := (List.getElem?_eq_some_iff.mp hi).1
  rw [fsI_len] at hl
  rw [fsI_get hp hl] at hi
  obtain ⟨c, hc, hm⟩ := sg_at (h := h) hp i
  rw [hi] at hc; cases hc
  exact hm
theorem fsI_snoc {h p : List Int} {n : Nat} {a : Int} (ha : sg h p n = some a) : fsI h p (n + 1) = fsI h p n ++ [a] := by
  unfold fsI
  rw [List.range_succ, List.map_append]
  simp [ha]
theorem fsI_congr {h p k q : List Int} {n : Nat} (e : ∀ i, sg h p i = sg k q i) : fsI h p n = fsI k q n := by
  unfold fsI
  simp [e]
theorem sg_app {h p k : List Int} {n : Nat} : sg (k ++ h) p n = if n < k.length then k[n]? else sg h p (n - k.length) := by
  unfold sg
  rw [List.length_append]
  by_cases c1 : n < k.length
  · rw [if_pos (by omega), if_pos c1, List.getElem?_append_left c1]
  · rw [if_neg c1]
    by_cases c2 : n < k.length + h.length
    · rw [if_pos c2, if_pos (by omega), List.getElem?_append_right (by omega)]
    · rw [if_neg c2, if_neg (by omega), show n - (k.length + h.length) = n - k.length - h.length by omega]
/-- the first letter of the period goes to the head -/
theorem sg_roll {h p : List Int} (hp : 0 < p.length) (n : Nat) : sg (h ++ p.take 1) (p.drop 1 ++ p.take 1) n = sg h p n := by
  have e : p.drop 1 ++ p.take 1 = rot 1 p := rfl
  have l1 : (p.take 1).length = 1 := by rw [List.length_take]; omega
  rw [e]
  unfold sg
  rw [List.length_append, l1, rot_len]
  by_cases c1 : n < h.length
  · rw [if_pos (by omega), if_pos c1, List.getElem?_append_left c1]
  · rw [if_neg c1]
    by_cases c2 : n < h.length + 1
    · rw [if_pos c2, List.getElem?_append_right (by omega), show n - h.length = 0 by omega, Nat.zero_mod, List.getElem?_take, if_pos (by decide)]
    · rw [if_neg c2, rot_get (by omega) (Nat.mod_lt _ hp), Nat.mod_add_mod, show n - (h.length + 1) + 1 = n - h.length by omega]
theorem sg_repl {h p : List Int} (hp : 0 < p.length) {k : Nat} (hk : 0 < k) (n : Nat) : sg h (repl p k) n = sg h p n := by
  unfold sg
  rw [repl_len]
  split
  · rfl
  · rw [repl_get _ _ _ (Nat.mod_lt _ (Nat.mul_pos hk hp)), Nat.mod_mul_left_mod]
/-- without the first letters -/
def rst (h p : List Int) (c : Nat) : List Int × List Int := if c ≤ h.length then (h.drop c, p) else ([], rot ((c - h.length) % p.length) p)
theorem sg_rst {h p : List Int} (hp : 0 < p.length) (c n : Nat) : sg (rst h p c).1 (rst h p c).2 n = sg h p (n + c) := by
  unfold rst
  by_cases z : c ≤ h.length
  · rw [if_pos z]
    show sg (h.drop c) p n = _
    unfold sg
    rw [List.length_drop]
    by_cases c1 : n < h.length - c
    · rw [if_pos c1, if_pos (by omega), List.getElem?_drop, Nat.add_comm]
    · rw [if_neg c1, if_neg (by omega), show n - (h.length - c) = n + c - h.length by omega]
  · rw [if_neg z]
    show sg [] (rot _ p) n = _
    have hm := Nat.mod_lt (c - h.length) hp
    unfold sg
    rw [if_neg (by simp), if_neg (by omega), List.length_nil, Nat.sub_zero, rot_len, rot_get (Nat.le_of_lt hm) (Nat.mod_lt _ hp), Nat.mod_add_mod, Nat.add_mod_mod, show n + c - h.length = n + (c - h.length) by omega]
theorem rst_pos {h p : List Int} (hp : 0 < p.length) (c : Nat) : 0 < (rst h p c).2.length := by
  unfold rst
  split
  · exact hp
  · show 0 < (rot _ p).length
    rw [rot_len]; exact hp
end K03

set_option Elab.async false
set_option linter.all false
set_option maxRecDepth 100000
set_option exponentiation.threshold 1000000
namespace K03
open PySem PySem.Spec L2 DL
theorem fd_nat {g : Nat} (h0 : 0 < g) (h : g < 2 ^ 9000) : g.log2 < 9000 := (Nat.log2_lt (by omega)).mpr h
end K03
namespace K03
open PySem PySem.Spec L2 DL
theorem rgL_get {n i : Nat} {d : D} (h : (rgL 0 (n : Int))[i]? = some d) : i < n ∧ d = .int (i : Int) := by
  have hi := (List.getElem?_eq_some_iff.mp h).1
  rw [rgL_length] at hi
  have hi : i < n := by omega
  refine ⟨hi, ?_⟩
  unfold rgL at h
  rw [List.getElem?_map, List.getElem?_range (by omega)] at h
  simp at h
  exact h.symm
theorem rgL_len (n : Nat) : (rgL 0 (n : Int)).length = n := by rw [rgL_length]; omega
theorem rg_ok {n : Nat} (h : n < 1000000) : -(2 ^ 62) ≤ (n : Int) ∧ (n : Int) < 2 ^ 62 := by omega
theorem range_snoc {α : Type} (n : Nat) (f : Nat → α) : (List.range (n + 1)).map f = (List.range n).map f ++ [f n] := by rw [List.range_succ, List.map_append]; rfl
theorem neD_bl (a b : Bool) : neD (.bl a) (.bl b) = some (.v (.bl (!(a == b)))) := by
  have h : ∀ x : Bool, SeqAt.shaped (PyData.bool x) = true := fun x => by first | rfl | simp [SeqAt.shaped]
  simp [neD, toPy, h, PyData.eqv]
inductive PlD : Nat → D → Prop
  | int {n i} : PlD (n + 1) (.int i)
  | bl {n i} : PlD (n + 1) (.bl i)
  | str {n i} : sOk i = true → PlD (n + 1) (.str i)
  | non {n} : PlD (n + 1) .non
  | tup {n ds} : ds.length < 1000000 → (∀ d ∈ ds, PlD n d) → PlD (n + 1) (.tup ds)
  | lst {n ds} : ds.length < 1000000 → (∀ d ∈ ds, PlD n d) → PlD (n + 1) (.lst ds)
theorem like_seq (self : DefM Unit) (ds : List D) (f : List D → D) (hf : f = .tup ∨ f = .lst) (hz : ds.length < 1000000) (hd : ∀ d ∈ ds, self [d, d] () = .ok (.v (.bl true)) ()) :
    ∃ s3, frM (q__law_like_1t self) (q__law_like_2b self) (rgL 0 (ds.length : Int)) ⟨[.v (f ds), .v (f ds), .no, .no], ()⟩ = .ok .nx ⟨[.v (f ds), .v (f ds), .no, s3], ()⟩ := by
  obtain ⟨s', h1, s3, h3⟩ := frM_run (t := q__law_like_1t self) (b := q__law_like_2b self) (fun n s => ∃ s3, s = ⟨[.v (f ds), .v (f ds), .no, s3], ()⟩) (rgL 0 (ds.length : Int)) 0 ⟨[.v (f ds), .v (f ds), .no, .no], ()⟩ ⟨.no, rfl⟩ fun n d s hx hI => by
    obtain ⟨s3, rfl⟩ := hI
    obtain ⟨hn, rfl⟩ := rgL_get hx
    have hg : ds[n]? = some ds[n] := by simp [hn]
    have hs := hd ds[n] (List.getElem_mem hn)
    refine ⟨_, _, rfl, ?_, .v (.int n), rfl⟩
    rcases hf with rfl | rfl <;> simp [q__law_like_2b, hn, hs, truD]
  exact ⟨s3, by rw [h1, h3]⟩
theorem like_ok : ∀ (n : Nat) (d : D), PlD n d → m__law_like n [d, d] () = .ok (.v (.bl true)) ()
  | n + 1, _, .int (i := i) => by
    simp [m__law_like, b__law_like, isiD, tyD, truD]
  | n + 1, _, .bl (i := i) => by
    cases i <;> simp [m__law_like, b__law_like, isiD, tyD, truD]
  | n + 1, _, .str (i := i) h => by
    simp [m__law_like, b__law_like, isiD, tyD, truD, eqD_str h h]
  | n + 1, _, .non => by
    simp [m__law_like, b__law_like, isiD, tyD, truD]
  | n + 1, _, .tup (ds := ds) hz h => by
    obtain ⟨s3, hl⟩ := like_seq (m__law_like n) ds .tup (.inl rfl) hz fun d hd => like_ok n d (h d hd)
    simp [m__law_like, b__law_like, isiD, tyD, truD, neD_bl, rng1_nat hz, hl]
  | n + 1, _, .lst (ds := ds) hz h => by
    obtain ⟨s3, hl⟩ := like_seq (m__law_like n) ds .lst (.inr rfl) hz fun d hd => like_ok n d (h d hd)
    simp [m__law_like, b__law_like, isiD, tyD, truD, neD_bl, rng1_nat hz, hl]
end K03
namespace DL
open PySem PySem.Spec L2 DL
def rbO (k : Option DL.Slot) (d : Option D) (s : S Bx) : Out (S Bx) RV := match k, d with
  | some (.v .box), some d => .ok (.v d) s
  | _, _ => .bad
@[simp] theorem rbO_ok {d : D} {s : S Bx} : rbO (some (.v .box)) (some d) s = .ok (.v d) s := id rfl
@[simp] theorem bxRd_ap {i k : Nat} {sl : List DL.Slot} {b : Bx} : bxRd i k ⟨sl, b⟩ = rbO sl[i]? b.items[k]? ⟨sl, b⟩ := id rfl
def sbO (k : Nat) (q : Option DL.Slot) (j : Option Int) (s : S Bx) : Out (S Bx) Fl := match q, j, decide (1 ≤ k ∧ k ≤ 5) with
  | some (.v .box), some j, true => .ok .nx { s with bx := s.bx.put k j }
  | _, _, _ => .bad
@[simp] theorem sbO_1 {j : Int} {s : S Bx} : sbO 1 (some (.v .box)) (some j) s = .ok .nx { s with bx := s.bx.put 1 j } := id rfl
@[simp] theorem sbO_2 {j : Int} {s : S Bx} : sbO 2 (some (.v .box)) (some j) s = .ok .nx { s with bx := s.bx.put 2 j } := id rfl
@[simp] theorem sbO_3 {j : Int} {s : S Bx} : sbO 3 (some (.v .box)) (some j) s = .ok .nx { s with bx := s.bx.put 3 j } := id rfl
@[simp] theorem sbO_4 {j : Int} {s : S Bx} : sbO 4 (some (.v .box)) (some j) s = .ok .nx { s with bx := s.bx.put 4 j } := id rfl
@[simp] theorem sbO_5 {j : Int} {s : S Bx} : sbO 5 (some (.v .box)) (some j) s = .ok .nx { s with bx := s.bx.put 5 j } := id rfl
@[simp] theorem bxSt_ap {i k : Nat} {m : M Bx RV} {s : S Bx} : bxSt i k m s = mbind m (fun r s => sbO k s.sl[i]? (asI r.d) s) s := id rfl
section
variable {c : List Int} {a g m n l j : Int}
@[simp] theorem items_mk : (Bx.mk c a g m n l).items = [.lst (c.map D.int), .int a, .int g, .int m, .int n, .int l] := id rfl
@[simp] theorem put_1 : (Bx.mk c a g m n l).put 1 j = ⟨c, j, g, m, n, l⟩ := id rfl
@[simp] theorem put_2 : (Bx.mk c a g m n l).put 2 j = ⟨c, a, j, m, n, l⟩ := id rfl
@[simp] theorem put_3 : (Bx.mk c a g m n l).put 3 j = ⟨c, a, g, j, n, l⟩ := id rfl
@[simp] theorem put_4 : (Bx.mk c a g m n l).put 4 j = ⟨c, a, g, m, j, l⟩ := id rfl
@[simp] theorem put_5 : (Bx.mk c a g m n l).put 5 j = ⟨c, a, g, m, n, j⟩ := id rfl
end
/-- the box stands well; N bounds the draws so far -/
structure BxOk (N : Nat) (b : Bx) : Prop where
  at0 : 0 ≤ b.at_
  big : 0 ≤ b.big
  mix0 : 0 ≤ b.mix
  mix1 : b.mix < 2147483549
  cnt0 : 0 ≤ b.cnt
  cnt1 : b.cnt ≤ N
theorem bx0_ok (ns : List Int) : BxOk 0 (bx0 ns) := ⟨Int.le_refl 0, Int.le_refl 0, (mixOf_range ns).1, (mixOf_range ns).2, Int.le_refl 0, Int.le_refl 0⟩
theorem BxOk.mono {N M : Nat} {b : Bx} (h : BxOk N b) (hl : N ≤ M) : BxOk M b := ⟨h.at0, h.big, h.mix0, h.mix1, h.cnt0, by have := h.cnt1; omega⟩
end DL
namespace K03
open PySem PySem.Spec L2 DL
theorem mul_bd {i j : Int} (hi : -(2 ^ 64) < i ∧ i < 2 ^ 64) (hj : -(2 ^ 64) < j ∧ j < 2 ^ 64) : mulOk i j = true := mul_ok (a := 64) (b := 64) (by omega) (by omega) (by decide) (by decide) (by decide)
theorem draw_ok {N : Nat} {b : Bx} (h : BxOk N b) (hN : N ≤ 1000000) {size : Nat} (h0 : 0 < size) (hs : size < 2 ^ 9000) : ∃ (d : Nat) (b' : Bx), m__law_draw [.box, .int size] b = .ok (.v (.int d)) b' ∧ d < size ∧ BxOk (N + 1) b' := by
  obtain ⟨cells, a, g, m, c, l⟩ := b
  obtain ⟨ha, hg, hm0, hm1, hc0, hc1⟩ := h
  simp only at ha hg hm0 hm1 hc0 hc1
  obtain ⟨a, rfl⟩ := Int.eq_ofNat_of_zero_le ha
  have hsz : (0 : Int) < (size : Int) := by omega
  have hlg : size.log2 < 9000 := fd_nat h0 hs
  have mc : mulOk (c + 1) 1000003 = true := mul_bd ⟨by omega, by omega⟩ ⟨by decide, by decide⟩
  have l89 : Nat.log2 89 < 9000 := by decide
  -- the last part
  have last : ∀ (sl2 sl3 : DL.Slot) (a' : Int) (m : Int), 0 ≤ m → m < 2147483549 → 0 ≤ a' → ∃ (d : Nat) (b' : Bx), finO (bnd (bxSt 0 3 (eBin modD (eAppB intF (argC (argV (eBin addD (eBin addD (eBin powD (bxRd 0 3) (cst (.int 3))) (eBin mulD (bxRd 0 4) (cst (.int 1000003)))) (cst (.int 70001)))) (mret []))) (cst (.int 2147483549))) ⟨[.v .box, .v (.int size), sl2, sl3], ⟨cells, a', 0, m, c + 1, l⟩⟩)
      (thenM (retM (eBin modD (eAppB intF (argC (argV (eBin addD (eBin fdivD (bxRd 0 3) (cst (.int 89))) (eBin mulD (eBin modD (eAppB intF (argC (argV (bxRd 0 3)) (mret []))) (cst (.int 6869))) (cst (.int 73))))) (mret []))) (rdV 1))))) = .ok (.v (.int d)) b' ∧ d < size ∧ BxOk (N + 1) b' := by
    intro sl2 sl3 a' m hm0 hm1 ha'
    obtain ⟨m', hm'⟩ : ∃ m', m' = (m ^ 3 + (c + 1) * 1000003 + 70001) % 2147483549 := ⟨_, rfl⟩
    have hp : m.natAbs < 2 ^ 64 := by omega
    have m73 : mulOk (m' % 6869) 73 = true := mul_bd ⟨by omega, by omega⟩ ⟨by decide, by decide⟩
    have hd0 : 0 ≤ (m' / 89 + m' % 6869 * 73) % (size : Int) := Int.emod_nonneg _ (by omega)
    have hd1 : (m' / 89 + m' % 6869 * 73) % (size : Int) < size := Int.emod_lt_of_pos _ hsz
    refine ⟨((m' / 89 + m' % 6869 * 73) % (size : Int)).toNat, ⟨cells, a', 0, m', c + 1, l⟩, ?_, by omega, ⟨ha', Int.le_refl 0, by show 0 ≤ m'; omega, by show m' < _; omega, by show 0 ≤ c + 1; omega, by show c + 1 ≤ _; omega⟩⟩
    have e : ((((m' / 89 + m' % 6869 * 73) % (size : Int)).toNat : Nat) : Int) = (m' / 89 + m' % 6869 * 73) % (size : Int) := by omega
    rw [e]
    simp [hp, mc, ← hm', m73, l89, h0]
  have digits : ∀ (x : Int), 0 ≤ x → 0 ≤ x % (size : Int) ∧ x % (size : Int) < size ∧ (((x % (size : Int)).toNat : Nat) : Int) = x % (size : Int) ∧ 0 ≤ x / (size : Int) := fun x hx => by
    have hd0 : 0 ≤ x % (size : Int) := Int.emod_nonneg _ (by omega)
    have hd1 : x % (size : Int) < size := Int.emod_lt_of_pos _ hsz
    exact ⟨hd0, hd1, by omega, Int.ediv_nonneg hx (by omega)⟩
  by_cases hf : g = 0 ∧ a < cells.length
  · obtain ⟨rfl, hal⟩ := hf
    have hal' : (a : Int) < (cells.length : Int) := by omega
    obtain ⟨bit, hbit⟩ : ∃ bit, cells[a] = bit := ⟨_, rfl⟩
    by_cases hbig : (1000000000000000000 : Int) ≤ bit
    · obtain ⟨d0, d1, d2, d3⟩ := digits bit (by omega)
      refine ⟨(bit % (size : Int)).toNat, ⟨cells, (a : Int) + 1, bit / size, m, c + 1, 59⟩, ?_, by omega, ⟨by show 0 ≤ (a : Int) + 1; omega, d3, hm0, hm1, by show 0 ≤ c + 1; omega, by show c + 1 ≤ _; omega⟩⟩
      have hpos : (0 : Int) < bit := by omega
      rw [d2]
      simp [m__law_draw, b__law_draw, hal, hal', hbit, hbig, hpos, h0, hlg]
    · obtain ⟨m', hm'⟩ : ∃ m', m' = (m * 75403 + bit % 2147483563 * 40009 + 307) % 2147483549 := ⟨_, rfl⟩
      have mm : mulOk m 75403 = true := mul_bd ⟨by omega, by omega⟩ ⟨by decide, by decide⟩
      have mb : mulOk (bit % 2147483563) 40009 = true := mul_bd ⟨by omega, by omega⟩ ⟨by decide, by decide⟩
      obtain ⟨d, b', h1, h2, h3⟩ := last (.v (.int bit)) .no ((a : Int) + 1) m' (by omega) (by omega) (by omega)
      refine ⟨d, b', ?_, h2, h3⟩
      rw [← h1]
      simp [m__law_draw, b__law_draw, hal, hal', hbit, hbig, mm, mb, ← hm']
  · by_cases hgp : 0 < g
    · obtain ⟨d0, d1, d2, d3⟩ := digits g hg
      have hg0 : ¬ g = 0 := by omega
      by_cases hl : 1 < l
      · refine ⟨(g % (size : Int)).toNat, ⟨cells, (a : Int), g / size, m, c + 1, l - 1⟩, ?_, by omega, ⟨ha, d3, hm0, hm1, by show 0 ≤ c + 1; omega, by show c + 1 ≤ _; omega⟩⟩
        rw [d2]
        simp [m__law_draw, b__law_draw, hg0, hgp, h0, hlg, hl]
      · refine ⟨(g % (size : Int)).toNat, ⟨cells, (a : Int), 0, m, c + 1, l - 1⟩, ?_, by omega, ⟨ha, Int.le_refl 0, hm0, hm1, by show 0 ≤ c + 1; omega, by show c + 1 ≤ _; omega⟩⟩
        rw [d2]
        simp [m__law_draw, b__law_draw, hg0, hgp, h0, hlg, hl]
    · have hg0 : g = 0 := by omega
      subst hg0
      have hal : ¬ a < cells.length := fun z => hf ⟨rfl, z⟩
      have hal' : ¬ (a : Int) < (cells.length : Int) := by omega
      obtain ⟨d, b', h1, h2, h3⟩ := last .no .no (a : Int) m hm0 hm1 ha
      refine ⟨d, b', ?_, h2, h3⟩
      rw [← h1]
      simp [m__law_draw, b__law_draw, hal, hal']
end K03
namespace K03
open PySem PySem.Spec L2 DL
theorem of_ok {N : Nat} {b : Bx} (h : BxOk N b) (hN : N ≤ 1000000) (ds : List D) (h0 : 0 < ds.length) (h1 : ds.length < 1000000) : ∃ (d : D) (b' : Bx), m__law_of [.box, .lst ds] b = .ok (.v d) b' ∧ d ∈ ds ∧ BxOk (N + 1) b' := by
  obtain ⟨k, b1, e1, e2, e3⟩ := draw_ok h hN (size := ds.length) h0 (Nat.lt_trans h1 (by decide))
  refine ⟨ds[k], b1, ?_, List.getElem_mem e2, e3⟩
  simp [m__law_of, b__law_of, e1, e2]
end K03

set_option Elab.async false
set_option linter.all false
set_option maxRecDepth 100000
namespace K03
open PySem PySem.Spec L2 DL PySem.NumText PyProof.Rows
/-! ### the shortest writing: the program's, the law's -/
theorem repl_map (q : List Int) (k : Nat) : (List.replicate k (q.map D.int)).flatten = (repl q k).map D.int := by
  unfold repl
  rw [List.map_flatten, List.map_replicate]
theorem lgN {n : Nat} (h : n < 1000000) : (n : Int).natAbs.log2 < 9000 := by
  rw [Int.natAbs_natCast]
  by_cases h0 : n = 0
  · rw [h0]; decide
  · exact (Nat.log2_lt h0).mpr (Nat.lt_trans h (Nat.lt_of_lt_of_le (show 1000000 < 2 ^ 20 by decide) (Nat.pow_le_pow_right (by decide) (by decide))))
theorem mulT_ok {q : List Int} {n l : Nat} (h0 : q ≠ []) (hl : q.length = l) (h1 : 1 ≤ l) (h2 : l ≤ n) (hz : n < 1000000) : mulTD (.tup (q.map D.int)) (.int ((n : Int) / (l : Int))) = some (.v (.tup ((repl q (n / l)).map D.int))) := by
  have e : (n : Int) / (l : Int) = ((n / l : Nat) : Int) := (Int.natCast_ediv n l).symm
  have a1 : 1 ≤ n / l := (Nat.one_le_div_iff (by omega)).mpr h2
  have a2 : n / l ≤ n := Nat.div_le_self n l
  have a3 : l * (n / l) ≤ n := Nat.mul_div_le n l
  rw [e, mulTD_tup, Int.toNat_natCast, if_pos ⟨by omega, by omega, by simpa using h0, by rw [List.length_map, hl]; omega⟩, repl_map]
theorem spn_body (p : List Int) (n l : Nat) (hn : p.length = n) (h1 : 1 ≤ l) (h2 : l ≤ n) (hz : n < 1000000) (h0 s3 s4 s5 : DL.Slot) : q_shortest_writing_2b ⟨[h0, .v (.tup (p.map D.int)), .v (.int n), .v (.int l), s4, s5], ()⟩ =
    if spnB p l = true then .ok .bk ⟨[h0, .v (.tup ((p.take l).map D.int)), .v (.int n), .v (.int l), s4, s5], ()⟩ else .ok .nx ⟨[h0, .v (.tup (p.map D.int)), .v (.int n), .v (.int l), s4, s5], ()⟩ := by
  have c1 : cutL (p.map D.int) none (some (l : Int)) = (p.take l).map D.int := by rw [cutL_to, List.map_take]
  have tl : (p.take l).length = l := by rw [List.length_take]; omega
  have mt := mulT_ok (q := p.take l) (n := n) (fun z => by rw [z] at tl; simp at tl; omega) tl h1 h2 hz
  have eq := eqD_ints (repl (p.take l) (n / l)) p
  have lg := lgN (n := l) (by omega)
  have l0 : (0 : Int) < (l : Int) := by omega
  have l0n : 0 < l := by omega
  unfold spnB
  rw [hn]
  by_cases hm : n % l = 0
  · have hm' : (n : Int) % (l : Int) = 0 := by rw [← Int.natCast_emod, hm]; rfl
    rw [decide_eq_true hm, Bool.true_and]
    generalize (p.take l).map D.int = Q at *
    by_cases he : repl (p.take l) (n / l) = p
    · rw [decide_eq_true he] at eq ⊢
      generalize (repl (p.take l) (n / l)).map D.int = R at *
      generalize p.map D.int = P at *
      simp [q_shortest_writing_2b, hm', l0, l0n, c1, mt, eq, lg]
      simp at lg
      simp [lg, mt, eq, c1]
    · rw [decide_eq_false he] at eq ⊢
      generalize (repl (p.take l) (n / l)).map D.int = R at *
      generalize p.map D.int = P at *
      simp [q_shortest_writing_2b, hm', l0, l0n, c1, mt, eq, lg]
      simp at lg
      simp [lg, mt, eq, c1]
  · have hm' : ¬ (n : Int) % (l : Int) = 0 := fun z => hm (by rw [← Int.natCast_emod] at z; omega)
    rw [decide_eq_false hm, Bool.false_and, if_neg (by decide)]
    generalize p.map D.int = P at *
    simp [q_shortest_writing_2b, hm', l0, l0n]
theorem sw_for (p : List Int) (n : Nat) (hn : p.length = n) (hz : n < 1000000) (h0 s4 s5 : DL.Slot) : ∀ (m l : Nat) (s3 : DL.Slot), l + m = n → 1 ≤ l →
    ∃ s3', frM q_shortest_writing_1t q_shortest_writing_2b (rgL (l : Int) ((n : Int) + 1)) ⟨[h0, .v (.tup (p.map D.int)), .v (.int n), s3, s4, s5], ()⟩ = .ok .nx ⟨[h0, .v (.tup ((p.take (leastF (spnB p) m l)).map D.int)), .v (.int n), s3', s4, s5], ()⟩
  | 0, l, s3, hl, h1 => by
    have e : l = n := by omega
    subst e
    refine ⟨.v (.int (l : Int)), ?_⟩
    have hp : p.take l = p := by rw [← hn, List.take_length]
    have hs : spnB p l = true := by
      unfold spnB
      rw [hn, Nat.mod_self, Nat.div_self (by omega), hp, repl_one]
      simp
    rw [rgL_cons (by omega), frM_step (s1 := ⟨[h0, .v (.tup (p.map D.int)), .v (.int l), .v (.int l), s4, s5], ()⟩) (by rfl), spn_body p l l hn h1 (Nat.le_refl _) hz h0 s3 s4 s5, if_pos hs]
    rfl
  | m + 1, l, s3, hl, h1 => by
    rw [rgL_cons (by omega), frM_step (s1 := ⟨[h0, .v (.tup (p.map D.int)), .v (.int n), .v (.int l), s4, s5], ()⟩) (by rfl), spn_body p n l hn h1 (by omega) hz h0 s3 s4 s5]
    unfold leastF
    by_cases hs : spnB p l = true
    · rw [if_pos hs, if_pos hs]
      exact ⟨.v (.int (l : Int)), rfl⟩
    · rw [if_neg hs, if_neg hs]
      obtain ⟨s3', ih⟩ := sw_for p n hn hz h0 s4 s5 m (l + 1) (.v (.int l)) (by omega) (by omega)
      exact ⟨s3', ih⟩
theorem tk_cond (h q : List Int) (t : Nat) (hq : 0 < q.length) (s3 s5 : DL.Slot) : q_shortest_writing_3c ⟨[.v (.tup (h.map D.int)), .v (.tup (q.map D.int)), .v (.int (q.length : Int)), s3, .v (.int (t : Int)), s5], ()⟩ =
    .ok (decide (t < h.length) && !tkB h q t) ⟨[.v (.tup (h.map D.int)), .v (.tup (q.map D.int)), .v (.int (q.length : Int)), s3, .v (.int (t : Int)), s5], ()⟩ := by
  have hH : (h.map D.int).length = h.length := List.length_map ..
  by_cases ht : t < h.length
  · have ht' : (t : Int) < (h.length : Int) := by omega
    have i1 : (h.length : Int) - 1 - (t : Int) = ((h.length - 1 - t : Nat) : Int) := by omega
    have hm : t % q.length < q.length := Nat.mod_lt _ hq
    have i2 : (q.length : Int) - 1 - (t : Int) % (q.length : Int) = ((q.length - 1 - t % q.length : Nat) : Int) := by
      rw [← Int.natCast_emod]; omega
    have b1 : h.length - 1 - t < h.length := by omega
    have b2 : q.length - 1 - t % q.length < q.length := by omega
    have g1 : h[h.length - 1 - t]? = some h[h.length - 1 - t] := List.getElem?_eq_getElem b1
    have g2 : q[q.length - 1 - t % q.length]? = some q[q.length - 1 - t % q.length] := List.getElem?_eq_getElem b2
    unfold tkB
    rw [g1, g2]
    generalize h[h.length - 1 - t] = a at *
    generalize q[q.length - 1 - t % q.length] = c at *
    have a1 : atI (h.map D.int) ((h.length : Int) - 1 - (t : Int)) = some (.int a) := by rw [i1, atI_cast, List.getElem?_map, g1]; rfl
    have a2 : atI (q.map D.int) ((q.length : Int) - 1 - (t : Int) % (q.length : Int)) = some (.int c) := by rw [i2, atI_cast, List.getElem?_map, g2]; rfl
    have q0 : (0 : Int) < (q.length : Int) := by omega
    have ec : decide (a = c) = decide (some a = some c) := by simp
    generalize h.map D.int = H at *
    generalize q.map D.int = Q at *
    simp [q_shortest_writing_3c, ht, ht', hH, a1, a2, hq]
  · have ht' : ¬ (t : Int) < (h.length : Int) := by omega
    generalize h.map D.int = H at *
    generalize q.map D.int = Q at *
    simp [q_shortest_writing_3c, ht, ht', hH]
theorem sw_while (h q : List Int) (hq : 0 < q.length) (s3 s5 : DL.Slot) : ∀ (m t fuel : Nat), t + m = h.length → m + 1 ≤ fuel →
    whM fuel q_shortest_writing_3c q_shortest_writing_4b ⟨[.v (.tup (h.map D.int)), .v (.tup (q.map D.int)), .v (.int (q.length : Int)), s3, .v (.int (t : Int)), s5], ()⟩ = .ok .nx ⟨[.v (.tup (h.map D.int)), .v (.tup (q.map D.int)), .v (.int (q.length : Int)), s3, .v (.int (leastF (tkB h q) m t : Nat)), s5], ()⟩
  | 0, t, fuel, ht, hf => by
    obtain ⟨fuel, rfl⟩ : ∃ k, fuel = k + 1 := ⟨fuel - 1, by omega⟩
    rw [whM_succ, tk_cond h q t hq, decide_eq_false (by omega), Bool.false_and]
    rfl
  | m + 1, t, fuel, ht, hf => by
    obtain ⟨fuel, rfl⟩ : ∃ k, fuel = k + 1 := ⟨fuel - 1, by omega⟩
    rw [whM_succ, tk_cond h q t hq, decide_eq_true (by omega), Bool.true_and]
    unfold leastF
    cases hb : tkB h q t with
    | true => rfl
    | false =>
      rw [if_neg (by decide), ← sw_while h q hq s3 s5 m (t + 1) fuel (by omega) (by omega)]
      generalize h.map D.int = H at *
      generalize q.map D.int = Q at *
      simp [q_shortest_writing_4b]
def pairD (q : List Int × List Int) : D := .tup [.tup (q.1.map D.int), .tup (q.2.map D.int)]
theorem shortest_ok (h p : List Int) (hp : 0 < p.length) (hz : p.length < 100000) (hy : h.length < 100000) : m_shortest_writing [.tup (h.map D.int), .tup (p.map D.int)] () = .ok (.v (pairD (sht h p))) () := by
  have hsp := spn_ok hp
  have lp := fun s3 => sw_for p p.length rfl (by omega) (.v (.tup (h.map D.int))) .no .no (p.length - 1) 1 s3 (by omega) (by omega)
  obtain ⟨s3', lp⟩ := lp .no
  have lp : frM q_shortest_writing_1t q_shortest_writing_2b (rgL 1 ((p.length : Int) + 1)) ⟨[.v (.tup (h.map D.int)), .v (.tup (p.map D.int)), .v (.int (p.length : Int)), .no, .no, .no], ()⟩ = .ok .nx ⟨[.v (.tup (h.map D.int)), .v (.tup ((p.take (spn p)).map D.int)), .v (.int (p.length : Int)), s3', .no, .no], ()⟩ := lp
  have hr : rngD2 [.int 1, .int ((p.length : Int) + 1)] = some (rgL 1 ((p.length : Int) + 1)) := by
    have := rng2_nat (n := 1) (m := p.length + 1) (by omega) (by omega)
    rw [Int.natCast_add] at this
    exact this
  have hq : (p.take (spn p)).length = spn p := by
    obtain ⟨k1, _, _, k4⟩ := hsp
    rw [List.length_take]; omega
  have hP : (p.map D.int).length = p.length := List.length_map ..
  unfold sht
  generalize p.take (spn p) = q at *
  have q0 : 0 < q.length := by
    obtain ⟨k1, _, _, k4⟩ := hsp
    omega
  have wl := sw_while h q q0 s3' .no h.length 0 1000000 (by omega) (by omega)
  have wl : whM 1000000 q_shortest_writing_3c q_shortest_writing_4b ⟨[.v (.tup (h.map D.int)), .v (.tup (q.map D.int)), .v (.int (q.length : Int)), s3', .v (.int 0), .no], ()⟩ = .ok .nx ⟨[.v (.tup (h.map D.int)), .v (.tup (q.map D.int)), .v (.int (q.length : Int)), s3', .v (.int (tk h q : Nat)), .no], ()⟩ := wl
  have tle : tk h q ≤ h.length := by have := (leastF_ge (tkB h q) h.length 0).2; unfold tk; omega
  generalize tk h q = t at *
  have hm : t % q.length < q.length := Nat.mod_lt _ q0
  have i1 : (h.length : Int) - (t : Int) = ((h.length - t : Nat) : Int) := by omega
  have i2 : (q.length : Int) - (t : Int) % (q.length : Int) = ((q.length - t % q.length : Nat) : Int) := by
    rw [← Int.natCast_emod]; omega
  have hH : (h.map D.int).length = h.length := List.length_map ..
  have hQ : (q.map D.int).length = q.length := List.length_map ..
  have c1 : cutL (h.map D.int) none (some ((h.length : Int) - (t : Int))) = (h.take (h.length - t)).map D.int := by rw [i1, cutL_to, List.map_take]
  have c2 : cutL (q.map D.int) (some ((q.length : Int) - (t : Int) % (q.length : Int))) none = (q.drop (q.length - t % q.length)).map D.int := by rw [i2, cutL_from, List.map_drop]
  have c3 : cutL (q.map D.int) none (some ((q.length : Int) - (t : Int) % (q.length : Int))) = (q.take (q.length - t % q.length)).map D.int := by rw [i2, cutL_to, List.map_take]
  have l1 : ((q.drop (q.length - t % q.length)).map D.int).length + ((q.take (q.length - t % q.length)).map D.int).length ≤ sizeLine := by
    rw [List.length_map, List.length_map, List.length_drop, List.length_take, sizeLine_eq]; omega
  have er : pairD (h.take (h.length - t), rot (q.length - t % q.length) q) = .tup [.tup ((h.take (h.length - t)).map D.int), .tup ((q.drop (q.length - t % q.length)).map D.int ++ (q.take (q.length - t % q.length)).map D.int)] := by
    unfold pairD rot
    rw [List.map_append]
  rw [er]
  generalize (q.drop (q.length - t % q.length)).map D.int = Q1 at *
  generalize (q.take (q.length - t % q.length)).map D.int = Q2 at *
  generalize (h.take (h.length - t)).map D.int = H1 at *
  generalize h.map D.int = H at *
  generalize q.map D.int = Q at *
  generalize p.map D.int = P at *
  generalize hK : whM 1000000 q_shortest_writing_3c q_shortest_writing_4b = WM at wl
  have q0i : (0 : Int) < (q.length : Int) := by omega
  simp [m_shortest_writing, b_shortest_writing, hK, hP, hr, lp, hQ, wl, hH, q0, q0i, c1, c2, c3, l1]
end K03

set_option Elab.async false
set_option linter.all false
set_option maxRecDepth 100000
namespace K03
open PySem PySem.Spec L2 DL PySem.NumText PyProof.Rows
/-! ### the law's shortest writing -/
theorem ls_body (p : List Int) (n v l : Nat) (hn : p.length = n) (h1 : 1 ≤ l) (h2 : l ≤ n) (hz : n < 1000000) (h0 s3 s5 s6 : DL.Slot) : q__law_short_2b ⟨[h0, .v (.tup (p.map D.int)), .v (.int v), s3, .v (.int l), s5, s6], ()⟩ =
    if v = n ∧ spnB p l = true then .ok .nx ⟨[h0, .v (.tup (p.map D.int)), .v (.int l), s3, .v (.int l), s5, s6], ()⟩ else .ok .nx ⟨[h0, .v (.tup (p.map D.int)), .v (.int v), s3, .v (.int l), s5, s6], ()⟩ := by
  have c1 : cutL (p.map D.int) none (some (l : Int)) = (p.take l).map D.int := by rw [cutL_to, List.map_take]
  have tl : (p.take l).length = l := by rw [List.length_take]; omega
  have mt := mulT_ok (q := p.take l) (n := n) (fun z => by rw [z] at tl; simp at tl; omega) tl h1 h2 hz
  have eq := eqD_ints (repl (p.take l) (n / l)) p
  have lg := lgN (n := l) (by omega)
  have l0 : (0 : Int) < (l : Int) := by omega
  have l0n : 0 < l := by omega
  have hP : (p.map D.int).length = n := by rw [List.length_map, hn]
  unfold spnB
  rw [hn]
  by_cases hv : v = n
  · subst hv
    by_cases hm : v % l = 0
    · have hm' : (v : Int) % (l : Int) = 0 := by rw [← Int.natCast_emod, hm]; rfl
      rw [decide_eq_true hm, Bool.true_and]
      generalize (p.take l).map D.int = Q at *
      by_cases he : repl (p.take l) (v / l) = p
      · rw [decide_eq_true he] at eq ⊢
        generalize (repl (p.take l) (v / l)).map D.int = R at *
        generalize p.map D.int = P at *
        simp at lg
        simp [q__law_short_2b, hm', l0, l0n, hP, lg, mt, eq, c1]
      · rw [decide_eq_false he] at eq ⊢
        generalize (repl (p.take l) (v / l)).map D.int = R at *
        generalize p.map D.int = P at *
        simp at lg
        simp [q__law_short_2b, hm', l0, l0n, hP, lg, mt, eq, c1]
    · have hm' : ¬ (v : Int) % (l : Int) = 0 := fun z => hm (by rw [← Int.natCast_emod] at z; omega)
      rw [decide_eq_false hm, Bool.false_and, if_neg (by simp)]
      generalize p.map D.int = P at *
      simp [q__law_short_2b, hm', l0, l0n, hP]
  · have hv' : ¬ (v : Int) = (n : Int) := by omega
    rw [if_neg (fun z => hv z.1)]
    generalize p.map D.int = P at *
    simp [q__law_short_2b, hP, hv, hv']
theorem ls_for (p : List Int) (n : Nat) (hn : p.length = n) (hz : n < 1000000) (h0 s3 s5 s6 : DL.Slot) : ∀ (m l v : Nat) (s4 : DL.Slot), l + m = n → 1 ≤ l →
    ∃ s4', frM q__law_short_1t q__law_short_2b (rgL (l : Int) (n : Int)) ⟨[h0, .v (.tup (p.map D.int)), .v (.int v), s3, s4, s5, s6], ()⟩ = .ok .nx ⟨[h0, .v (.tup (p.map D.int)), .v (.int (if v = n then leastF (spnB p) m l else v : Nat)), s3, s4', s5, s6], ()⟩
  | 0, l, v, s4, hl, h1 => by
    refine ⟨s4, ?_⟩
    rw [rgL_end (by omega), frM_end]
    unfold leastF
    have : (if v = n then l else v) = v := by split <;> omega
    rw [this]
  | m + 1, l, v, s4, hl, h1 => by
    rw [rgL_cons (by omega), frM_step (s1 := ⟨[h0, .v (.tup (p.map D.int)), .v (.int v), s3, .v (.int l), s5, s6], ()⟩) (by rfl), ls_body p n v l hn h1 (by omega) hz h0 s3 s5 s6]
    unfold leastF
    by_cases hs : v = n ∧ spnB p l = true
    · rw [if_pos hs, if_pos hs.1, if_pos hs.2]
      obtain ⟨s4', ih⟩ := ls_for p n hn hz h0 s3 s5 s6 m (l + 1) l (.v (.int l)) (by omega) (by omega)
      rw [if_neg (by omega)] at ih
      exact ⟨s4', ih⟩
    · rw [if_neg hs]
      obtain ⟨s4', ih⟩ := ls_for p n hn hz h0 s3 s5 s6 m (l + 1) v (.v (.int l)) (by omega) (by omega)
      refine ⟨s4', ?_⟩
      have : (if v = n then if spnB p l = true then l else leastF (spnB p) m (l + 1) else v) = if v = n then leastF (spnB p) m (l + 1) else v := by
        by_cases hv : v = n
        · rw [if_pos hv, if_pos hv, if_neg fun z => hs ⟨hv, z⟩]
        · rw [if_neg hv, if_neg hv]
      rw [this]
      exact ih
theorem turn_ix {s : Nat} (hs : 0 < s) (t : Nat) : ((s : Int) - 1 - (t : Int)) % (s : Int) = ((s - 1 - t % s : Nat) : Int) := by
  have hm : t % s < s := Nat.mod_lt _ hs
  have hd := Nat.mod_add_div t s
  have e : (s : Int) - 1 - (t : Int) = ((s - 1 - t % s : Nat) : Int) + (s : Int) * (-((t / s : Nat) : Int)) := by
    have h1 : (t : Int) = ((t % s : Nat) : Int) + (s : Int) * ((t / s : Nat) : Int) := by
      rw [← Int.natCast_mul, ← Int.natCast_add, hd]
    rw [Int.mul_neg]
    omega
  rw [e, Int.add_mul_emod_self_left, Int.emod_eq_of_lt (by omega) (by omega)]
theorem lt_body (h p : List Int) (s d t : Nat) (hs : 0 < s) (hsp : s ≤ p.length) (ht : t < h.length) (s4 s6 : DL.Slot) : q__law_short_4b ⟨[.v (.tup (h.map D.int)), .v (.tup (p.map D.int)), .v (.int s), .v (.int d), s4, .v (.int t), s6], ()⟩ =
    if d = t ∧ tkB h (p.take s) t = false then .ok .nx ⟨[.v (.tup (h.map D.int)), .v (.tup (p.map D.int)), .v (.int s), .v (.int (d + 1 : Nat)), s4, .v (.int t), s6], ()⟩ else .ok .nx ⟨[.v (.tup (h.map D.int)), .v (.tup (p.map D.int)), .v (.int s), .v (.int d), s4, .v (.int t), s6], ()⟩ := by
  have hH : (h.map D.int).length = h.length := List.length_map ..
  by_cases hd : d = t
  · subst hd
    have i1 : (h.length : Int) - 1 - (d : Int) = ((h.length - 1 - d : Nat) : Int) := by omega
    have hm : d % s < s := Nat.mod_lt _ hs
    have ql : (p.take s).length = s := by rw [List.length_take]; omega
    have b1 : h.length - 1 - d < h.length := by omega
    have b2 : s - 1 - d % s < p.length := by omega
    have g1 : h[h.length - 1 - d]? = some h[h.length - 1 - d] := List.getElem?_eq_getElem b1
    have g2 : p[s - 1 - d % s]? = some p[s - 1 - d % s] := List.getElem?_eq_getElem b2
    have g3 : (p.take s)[s - 1 - d % s]? = some p[s - 1 - d % s] := by rw [List.getElem?_take, if_pos (by omega), g2]
    unfold tkB
    rw [ql, g1, g3]
    generalize h[h.length - 1 - d] = a at *
    generalize p[s - 1 - d % s] = c at *
    have a1 : atI (h.map D.int) ((h.length : Int) - 1 - (d : Int)) = some (.int a) := by rw [i1, atI_cast, List.getElem?_map, g1]; rfl
    have a2 : atI (p.map D.int) (((s : Int) - 1 - (d : Int)) % (s : Int)) = some (.int c) := by rw [turn_ix hs, atI_cast, List.getElem?_map, g2]; rfl
    have q0 : (0 : Int) < (s : Int) := by omega
    generalize h.map D.int = H at *
    generalize p.map D.int = Q at *
    by_cases hac : a = c
    · subst hac
      simp [q__law_short_4b, hH, a1, a2, q0, hs]
    · have : ¬ some a = some c := fun z => hac (Option.some.inj z)
      simp [q__law_short_4b, hH, a1, a2, q0, hs, hac]
  · have hd' : ¬ (d : Int) = (t : Int) := by omega
    rw [if_neg fun z => hd z.1]
    generalize h.map D.int = H at *
    generalize p.map D.int = Q at *
    simp [q__law_short_4b, hd, hd']
theorem lt_for (h p : List Int) (s : Nat) (hs : 0 < s) (hsp : s ≤ p.length) (s4 s6 : DL.Slot) : ∀ (m t d : Nat) (s5 : DL.Slot), t + m = h.length → d ≤ t →
    ∃ s5', frM q__law_short_3t q__law_short_4b (rgL (t : Int) (h.length : Int)) ⟨[.v (.tup (h.map D.int)), .v (.tup (p.map D.int)), .v (.int s), .v (.int d), s4, s5, s6], ()⟩ = .ok .nx ⟨[.v (.tup (h.map D.int)), .v (.tup (p.map D.int)), .v (.int s), .v (.int (if d = t then leastF (tkB h (p.take s)) m t else d : Nat)), s4, s5', s6], ()⟩
  | 0, t, d, s5, ht, hd => by
    refine ⟨s5, ?_⟩
    rw [rgL_end (by omega), frM_end]
    unfold leastF
    have : (if d = t then t else d) = d := by split <;> omega
    rw [this]
  | m + 1, t, d, s5, ht, hd => by
    rw [rgL_cons (by omega), frM_step (s1 := ⟨[.v (.tup (h.map D.int)), .v (.tup (p.map D.int)), .v (.int s), .v (.int d), s4, .v (.int t), s6], ()⟩) (by rfl), lt_body h p s d t hs hsp (by omega) s4 s6]
    unfold leastF
    by_cases hc : d = t ∧ tkB h (p.take s) t = false
    · rw [if_pos hc, if_pos hc.1, if_neg (by rw [hc.2]; decide)]
      obtain ⟨s5', ih⟩ := lt_for h p s hs hsp s4 s6 m (t + 1) (d + 1) (.v (.int t)) (by omega) (by omega)
      rw [if_pos (by omega)] at ih
      exact ⟨s5', ih⟩
    · rw [if_neg hc]
      obtain ⟨s5', ih⟩ := lt_for h p s hs hsp s4 s6 m (t + 1) d (.v (.int t)) (by omega) (by omega)
      rw [if_neg (by omega)] at ih
      refine ⟨s5', ?_⟩
      have : (if d = t then if tkB h (p.take s) t = true then t else leastF (tkB h (p.take s)) m (t + 1) else d) = d := by
        by_cases hv : d = t
        · rw [if_pos hv, if_pos (by
            cases hb : tkB h (p.take s) t with
            | true => rfl
            | false => exact absurd ⟨hv, hb⟩ hc), hv]
        · rw [if_neg hv]
      rw [this]
      exact ih
theorem law_short_ok (h p : List Int) (hp : 0 < p.length) (hz : p.length < 100000) (hy : h.length < 100000) : m__law_short [.tup (h.map D.int), .tup (p.map D.int)] () = .ok (.v (pairD (sht h p))) () := by
  have ⟨k1, _, _, k4⟩ := spn_ok hp
  obtain ⟨s4', lp⟩ := ls_for p p.length rfl (by omega) (.v (.tup (h.map D.int))) (.v (.int 0)) .no .no (p.length - 1) 1 p.length .no (by omega) (by omega)
  rw [if_pos rfl] at lp
  have lp : frM q__law_short_1t q__law_short_2b (rgL 1 (p.length : Int)) ⟨[.v (.tup (h.map D.int)), .v (.tup (p.map D.int)), .v (.int (p.length : Int)), .v (.int 0), .no, .no, .no], ()⟩ = .ok .nx ⟨[.v (.tup (h.map D.int)), .v (.tup (p.map D.int)), .v (.int (spn p : Nat)), .v (.int 0), s4', .no, .no], ()⟩ := lp
  have hr : rngD2 [.int 1, .int (p.length : Int)] = some (rgL 1 (p.length : Int)) := rng2_nat (n := 1) (m := p.length) (by omega) (by omega)
  have hr1 := rng1_nat (n := h.length) (by omega)
  have hP : (p.map D.int).length = p.length := List.length_map ..
  have hH : (h.map D.int).length = h.length := List.length_map ..
  obtain ⟨s5', lq⟩ := lt_for h p (spn p) k1 k4 s4' .no h.length 0 0 .no (by omega) (Nat.le_refl _)
  rw [if_pos rfl] at lq
  have lq : frM q__law_short_3t q__law_short_4b (rgL 0 (h.length : Int)) ⟨[.v (.tup (h.map D.int)), .v (.tup (p.map D.int)), .v (.int (spn p : Nat)), .v (.int 0), s4', .no, .no], ()⟩ = .ok .nx ⟨[.v (.tup (h.map D.int)), .v (.tup (p.map D.int)), .v (.int (spn p : Nat)), .v (.int (tk h (p.take (spn p)) : Nat)), s4', s5', .no], ()⟩ := lq
  have hq : (p.take (spn p)).length = spn p := by rw [List.length_take]; omega
  have tle : tk h (p.take (spn p)) ≤ h.length := by have := (leastF_ge (tkB h (p.take (spn p))) h.length 0).2; unfold tk; omega
  unfold sht
  rw [hq]
  generalize tk h (p.take (spn p)) = t at *
  generalize hs : spn p = s at *
  have hm : t % s < s := Nat.mod_lt _ (by omega)
  have i1 : (h.length : Int) - (t : Int) = ((h.length - t : Nat) : Int) := by omega
  have i2 : (s : Int) - (t : Int) % (s : Int) = ((s - t % s : Nat) : Int) := by
    rw [← Int.natCast_emod]; omega
  have c1 : cutL (h.map D.int) none (some ((h.length : Int) - (t : Int))) = (h.take (h.length - t)).map D.int := by rw [i1, cutL_to, List.map_take]
  have c2 : cutL (p.map D.int) (some ((s : Int) - (t : Int) % (s : Int))) (some (s : Int)) = ((p.take s).drop (s - t % s)).map D.int := by
    rw [i2, cutL_mid _ _ _ (by rw [List.length_map]; omega), List.drop_take, List.map_take, List.map_drop]
  have c3 : cutL (p.map D.int) none (some ((s : Int) - (t : Int) % (s : Int))) = ((p.take s).take (s - t % s)).map D.int := by
    have e : min (s - t % s) s = s - t % s := by omega
    rw [i2, cutL_to, List.take_take, e, List.map_take]
  have l1 : (((p.take s).drop (s - t % s)).map D.int).length + (((p.take s).take (s - t % s)).map D.int).length ≤ sizeLine := by
    rw [List.length_map, List.length_map, List.length_drop, List.length_take, List.length_take, sizeLine_eq]; omega
  have er : pairD (h.take (h.length - t), rot (s - t % s) (p.take s)) = .tup [.tup ((h.take (h.length - t)).map D.int), .tup (((p.take s).drop (s - t % s)).map D.int ++ ((p.take s).take (s - t % s)).map D.int)] := by
    unfold pairD rot
    rw [List.map_append]
  rw [er]
  generalize ((p.take s).drop (s - t % s)).map D.int = Q1 at *
  generalize ((p.take s).take (s - t % s)).map D.int = Q2 at *
  generalize (h.take (h.length - t)).map D.int = H1 at *
  generalize h.map D.int = H at *
  generalize p.map D.int = P at *
  have q0 : 0 < s := by omega
  have q0i : (0 : Int) < (s : Int) := by omega
  simp [m__law_short, b__law_short, noX_ap, hP, hr, lp, hr1, lq, hH, q0, q0i, c1, c2, c3, l1]
end K03

set_option Elab.async false
set_option linter.all false
set_option maxRecDepth 100000
namespace K03
open PySem PySem.Spec L2 DL PySem.NumText PyProof.Rows
/-! ### letters as texts, texts of streams, streams made -/
def joinL : List (List Nat) → List Nat
  | [] => []
  | [a] => a
  | a :: b :: r => a ++ 32 :: joinL (b :: r)
abbrev tD (l : List Nat) : D := .str (tx l)
abbrev tokD (ts : List (List Nat)) : List D := ts.map tD
@[simp] theorem lit_sp : Str.ofString " " = ⟨#[32]⟩ := by decide +kernel
@[simp] theorem lit_dot : Str.ofString "." = ⟨#[46]⟩ := by decide +kernel
@[simp] theorem lit_open : Str.ofString "(" = ⟨#[40]⟩ := by decide +kernel
@[simp] theorem lit_close : Str.ofString ")" = ⟨#[41]⟩ := by decide +kernel
@[simp] theorem sp_len : (⟨#[32]⟩ : Str).length = 1 := by decide +kernel
@[simp] theorem lit_none : Str.ofString "" = ⟨#[]⟩ := by decide +kernel
def dg (a : Int) : List Nat := cs (itx a)
theorem dg_tx (a : Int) : tx (dg a) = itx a := tx_cs _
theorem dg_nat (n : Nat) : dg (n : Int) = dgt n := cs_nat n
def lts (size : Int) (q : List Int) : Prop := ∀ a ∈ q, 0 ≤ a ∧ a < size
theorem dg_free {a : Int} (h : 0 ≤ a) : AllDigits (dg a) ∧ dg a ≠ [] := by
  obtain ⟨n, rfl⟩ := Int.eq_ofNat_of_zero_le h
  rw [dg_nat]
  exact ⟨(dgt_facts n).1, (dgt_facts n).2.1⟩
theorem dg_len {a : Int} (h : 0 ≤ a) (h1 : a < 1000) : (dg a).length ≤ 3 := by
  obtain ⟨n, rfl⟩ := Int.eq_ofNat_of_zero_le h
  rw [dg_nat]
  exact dgt_len (by decide) (by omega)
structure Itm (t : List Nat) : Prop where
  asc : Asc t
  ne : t ≠ []
  free : 32 ∉ t
  len : t.length ≤ 10
theorem itm_dg {a : Int} (h : 0 ≤ a) (h1 : a < 1000) : Itm (dg a) := by
  obtain ⟨h2, h3⟩ := dg_free h
  exact ⟨AllDigits.asc h2, h3, fun z => by have := h2 32 z; omega, by have := dg_len h h1; omega⟩
theorem asc_one {c : Nat} (h : c < 128) : Asc [c] := fun d hd => by rw [List.mem_singleton.mp hd]; exact h
theorem itm_open : Itm [40] := ⟨asc_one (by decide), by decide, by decide, by decide⟩
theorem itm_close : Itm [41] := ⟨asc_one (by decide), by decide, by decide, by decide⟩
theorem itm_dgs {size : Int} {q : List Int} (hs : size ≤ 1000) (h : lts size q) : ∀ t ∈ q.map dg, Itm t := fun t ht => by
  obtain ⟨a, ha, rfl⟩ := List.mem_map.mp ht
  have := h a ha
  exact itm_dg this.1 (by omega)
def joinS (ps : List (List Nat)) : Str := Txt.join ⟨#[32]⟩ (ps.map tx)
theorem joinS_eq (ps : List (List Nat)) : joinS ps = Str.join ⟨#[32]⟩ (ps.map tx) := StrLaws.glued_eq_join _ _
theorem cs_join (ps : List (List Nat)) : cs (joinS ps) = joinL ps := by
  rw [joinS_eq]
  induction ps with
  | nil => rfl
  | cons a r ih =>
    cases r with
    | nil =>
      rw [List.map_cons, List.map_nil, join_one, cs_tx]
      rfl
    | cons b r =>
      rw [List.map_cons, List.map_cons, join_cons_cons, cs_app, cs_app, cs_tx, ← List.map_cons, ih, List.append_assoc]
      rfl
theorem joinL_len : ∀ {ps : List (List Nat)}, (∀ t ∈ ps, Itm t) → (joinL ps).length ≤ 11 * ps.length
  | [], _ => by simp [joinL]
  | [a], h => by have := (h a (by simp)).len; simp [joinL]; omega
  | a :: b :: r, h => by
    have := (h a (by simp)).len
    have ih := joinL_len (ps := b :: r) fun t ht => h t (List.mem_cons_of_mem _ ht)
    show (a ++ 32 :: joinL (b :: r)).length ≤ _
    rw [List.length_append, List.length_cons, List.length_cons (a := a)]
    omega
theorem join_ok {ps : List (List Nat)} (h : ∀ t ∈ ps, Itm t) (hz : ps.length ≤ 2000) : joinF ⟨#[32]⟩ (.lst (tokD ps)) = some (.v (.str (joinS ps))) := by
  have e : tokD ps = (ps.map tx).map D.str := by rw [List.map_map]; rfl
  have hs : ∀ {ps : List (List Nat)}, (∀ t ∈ ps, Itm t) → ((ps.map tx).map (·.length)).sum ≤ 10 * ps.length := by
    intro ps
    induction ps with
    | nil => intro _; simp
    | cons a r ih =>
      intro h
      have := (h a (by simp)).len
      have ih := ih fun t ht => h t (List.mem_cons_of_mem _ ht)
      simp only [List.map_cons, List.sum_cons, List.length_cons]
      rw [len_cs, cs_tx]
      omega
  have := hs h
  rw [e, joinF_map]
  · rfl
  · rw [sp_len, List.length_map]; omega
def flw (h p : List Int) : List (List Nat) := h.map dg ++ [40] :: (p.map dg ++ [[41]])
theorem itm_flw {size : Int} {h p : List Int} (hs : size ≤ 1000) (h1 : lts size h) (h2 : lts size p) : ∀ t ∈ flw h p, Itm t := fun t ht => by
  rcases List.mem_append.mp ht with z | z
  · exact itm_dgs hs h1 t z
  · rcases List.mem_cons.mp z with rfl | z
    · exact itm_open
    · rcases List.mem_append.mp z with z | z
      · exact itm_dgs hs h2 t z
      · rw [List.mem_singleton.mp z]; exact itm_close
def strG : D → D
  | .int i => .str (itx i)
  | d => d
theorem strF_all {size : Int} {q : List Int} (hs : size ≤ 1000) (h : lts size q) : ∀ d ∈ q.map D.int, strF [d] = some (.v (strG d)) ∧ scalD (strG d) = true := fun d hd => by
  obtain ⟨a, ha, rfl⟩ := List.mem_map.mp hd
  have := h a ha
  have lg : a.natAbs.log2 < 1920 := lg_small (k := 10) (by omega) (by decide) (by decide)
  exact ⟨by rw [strF_int, if_pos lg]; rfl, rfl⟩
theorem strG_ints (q : List Int) : (q.map D.int).map strG = tokD (q.map dg) := by
  show (q.map D.int).map strG = (q.map dg).map tD
  rw [List.map_map, List.map_map]
  apply List.map_congr_left
  intro a _
  show D.str (itx a) = D.str (tx (dg a))
  rw [dg_tx]
theorem flw_tok (h p : List Int) : tokD (flw h p) = tokD (h.map dg) ++ [.str ⟨#[40]⟩] ++ tokD (p.map dg) ++ [.str ⟨#[41]⟩] := by
  unfold flw
  simp [tokD]
  exact ⟨rfl, rfl⟩
theorem flow_said_ok {size : Int} {h p : List Int} (hs : size ≤ 1000) (h1 : lts size h) (h2 : lts size p) (hz : h.length + p.length ≤ 1900) : m__law_flow_said [.tup (h.map D.int), .tup (p.map D.int)] () = .ok (.v (.str (joinS (flw h p)))) () := by
  have hl : (h.map D.int).length = h.length := List.length_map ..
  have pl : (p.map D.int).length = p.length := List.length_map ..
  have jo := join_ok (itm_flw hs h1 h2) (by unfold flw; simp; omega)
  rw [flw_tok] at jo
  have lc : lcM [2] (itM (rdV 0)) q__law_flow_said_1t (mret true) q__law_flow_said_2e ⟨[.v (.tup (h.map D.int)), .v (.tup (p.map D.int)), .no], ()⟩ = .ok (.o (tokD (h.map dg))) ⟨[.v (.tup (h.map D.int)), .v (.tup (p.map D.int)), .no], ()⟩ := by
    rw [← strG_ints]
    exact lcM_fun (by simp) rfl (strF_all hs h1) (by rw [hl]; exact szle (by omega))
  have lc2 : lcM [2] (itM (rdV 1)) q__law_flow_said_3t (mret true) q__law_flow_said_4e ⟨[.v (.tup (h.map D.int)), .v (.tup (p.map D.int)), .no], ()⟩ = .ok (.o (tokD (p.map dg))) ⟨[.v (.tup (h.map D.int)), .v (.tup (p.map D.int)), .no], ()⟩ := by
    rw [← strG_ints]
    exact lcM_fun (by simp) rfl (strF_all hs h2) (by rw [pl]; exact szle (by omega))
  have t1 : (tokD (h.map dg)).length = h.length := by simp [tokD]
  have t2 : (tokD (p.map dg)).length = p.length := by simp [tokD]
  have z1 : h.length + 1 ≤ sizeLine := szle (by omega)
  have z2 : h.length + 1 + p.length ≤ sizeLine := szle (by omega)
  have z3 : h.length + 1 + p.length + 1 ≤ sizeLine := szle (by omega)
  generalize h.map D.int = H at *
  generalize p.map D.int = P at *
  generalize tokD (h.map dg) = T at *
  generalize tokD (p.map dg) = U at *
  simp at jo z1 z2 z3
  have z4 : h.length + (p.length + 1) ≤ sizeLine := by omega
  have z5 : h.length + (p.length + 1 + 1) ≤ sizeLine := by omega
  have z6 : h.length + (p.length + 1) + 1 ≤ sizeLine := by omega
  simp [-lcM_ap, m__law_flow_said, b__law_flow_said, lc, lc2, t1, t2, z1, z2, z3, z4, z5, z6, jo]
def szN (b k : Nat) : Nat := if k = 1 then b else b * b
theorem letter_count_ok {b k : Nat} (hb : b ≤ 1000) : m_letter_count [.int b, .int k] () = .ok (.v (.int (szN b k : Nat))) () := by
  unfold szN
  have m1 : mulOk (b : Int) (b : Int) = true := mul_bd (by omega) (by omega)
  by_cases h : k = 1
  · subst h
    simp [m_letter_count, b_letter_count]
  · have h' : ¬ (k : Int) = 1 := by omega
    simp [m_letter_count, b_letter_count, h, h', m1]
def strF4 (b k : Nat) (h p : List Int) : List (Str × D) := [("base", .int (b : Int)), ("width", .int (k : Int)), ("head", .tup (h.map D.int)), ("period", .tup (p.map D.int))]
def strD (b k : Nat) (h p : List Int) : D := .ins "Stream" (strF4 b k h p)
theorem at_base (b k : Nat) (h p : List Int) : atO insX "base" (strD b k h p) = some (.v (.int (b : Int))) := by kernel_rfl
theorem at_width (b k : Nat) (h p : List Int) : atO insX "width" (strD b k h p) = some (.v (.int (k : Int))) := by kernel_rfl
theorem at_head (b k : Nat) (h p : List Int) : atO insX "head" (strD b k h p) = some (.v (.tup (h.map D.int))) := by kernel_rfl
theorem at_period (b k : Nat) (h p : List Int) : atO insX "period" (strD b k h p) = some (.v (.tup (p.map D.int))) := by kernel_rfl
theorem iso_str (b k : Nat) (h p : List Int) : isoO "Stream" csX (strD b k h p) = some (.v (.bl true)) := by kernel_rfl
theorem isO_str (b k : Nat) (h p : List Int) : isO "Stream" (strD b k h p) = true := by kernel_rfl
theorem ins_text (b k : Nat) (h p : List Int) : isIns "Stream" "text" (strD b k h p) = true := by kernel_rfl
theorem put1 (d : D) : putD "base" d [] = ([("base", d)] : List (Str × D)) := by kernel_rfl
theorem put2 (d x : D) : putD "width" d [("base", x)] = ([("base", x), ("width", d)] : List (Str × D)) := by kernel_rfl
theorem put3 (d x y : D) : putD "head" d [("base", x), ("width", y)] = ([("base", x), ("width", y), ("head", d)] : List (Str × D)) := by kernel_rfl
theorem put4 (d x y z : D) : putD "period" d [("base", x), ("width", y), ("head", z)] = ([("base", x), ("width", y), ("head", z), ("period", d)] : List (Str × D)) := by kernel_rfl
abbrev FL : List Str := ["base", "width", "head", "period"]
theorem atS1 {sl : List DL.Slot} {d : D} (h : sl[0]? = some (.v .box)) (hd : nbx d = true) : atS "Stream" FL 0 "base" d ⟨sl, ⟨[]⟩⟩ = .ok () ⟨sl, ⟨[("base", d)]⟩⟩ := by
  rw [atS_ap h hd (by decide +kernel) (by simp)]
  show Out.ok () _ = _
  rw [put1]
theorem atS2 {sl : List DL.Slot} {d x : D} (h : sl[0]? = some (.v .box)) (hd : nbx d = true) : atS "Stream" FL 0 "width" d ⟨sl, ⟨[("base", x)]⟩⟩ = .ok () ⟨sl, ⟨[("base", x), ("width", d)]⟩⟩ := by
  rw [atS_ap h hd (by decide +kernel) (by simp)]
  show Out.ok () _ = _
  rw [put2]
theorem atS3 {sl : List DL.Slot} {d x y : D} (h : sl[0]? = some (.v .box)) (hd : nbx d = true) : atS "Stream" FL 0 "head" d ⟨sl, ⟨[("base", x), ("width", y)]⟩⟩ = .ok () ⟨sl, ⟨[("base", x), ("width", y), ("head", d)]⟩⟩ := by
  rw [atS_ap h hd (by decide +kernel) (by simp)]
  show Out.ok () _ = _
  rw [put3]
theorem atS4 {sl : List DL.Slot} {d x y z : D} (h : sl[0]? = some (.v .box)) (hd : nbx d = true) : atS "Stream" FL 0 "period" d ⟨sl, ⟨[("base", x), ("width", y), ("head", z)]⟩⟩ = .ok () ⟨sl, ⟨[("base", x), ("width", y), ("head", z), ("period", d)]⟩⟩ := by
  rw [atS_ap h hd (by decide +kernel) (by simp)]
  show Out.ok () _ = _
  rw [put4]
theorem init_loop (size : Int) (s0 s1 s2 s3 s4 : DL.Slot) (q : IB "Stream") : ∀ (ls : List Int) (s6 : DL.Slot), lts size ls → ∃ s6', frM q_Stream___init___1t q_Stream___init___2b (ls.map D.int) ⟨[s0, s1, s2, s3, s4, .v (.int size), s6], q⟩ = .ok .nx ⟨[s0, s1, s2, s3, s4, .v (.int size), s6'], q⟩
  | [], s6, _ => ⟨s6, rfl⟩
  | a :: ls, s6, h => by
    have ⟨h0, h1⟩ := h a (by simp)
    obtain ⟨s6', ih⟩ := init_loop size s0 s1 s2 s3 s4 q ls (.v (.int a)) fun b hb => h b (List.mem_cons_of_mem _ hb)
    refine ⟨s6', ?_⟩
    rw [List.map_cons, frM_step (s1 := ⟨[s0, s1, s2, s3, s4, .v (.int size), .v (.int a)], q⟩) (by rfl), ← ih]
    simp [q_Stream___init___2b, h0, h1]
theorem init_ok {b k : Nat} {h p : List Int} (hb : b ≤ 1000) (hp : p ≠ []) (h1 : lts (szN b k : Nat) h) (h2 : lts (szN b k : Nat) p) (hz : h.length ≤ 2000) (pz : p.length ≤ 2000) :
    m_Stream___init__ [.box, .int (b : Int), .int (k : Int), .lst (h.map D.int), .lst (p.map D.int)] ⟨[]⟩ = .ok (.v .non) ⟨strF4 b k (sht h p).1 (sht h p).2⟩ := by
  have lc := letter_count_ok (k := k) hb
  have pp : 0 < p.length := List.length_pos_iff.mpr hp
  have sh := shortest_ok h p pp (by omega) (by omega)
  have hall : lts (szN b k : Nat) (h ++ p) := fun a ha => (List.mem_append.mp ha).elim (h1 a) (h2 a)
  obtain ⟨s6', il⟩ := init_loop (szN b k : Nat) (.v .box) (.v (.int (b : Int))) (.v (.int (k : Int))) (.v (.lst (h.map D.int))) (.v (.lst (p.map D.int))) ⟨[]⟩ (h ++ p) .no hall
  rw [List.map_append] at il
  have n1 : nbx (.tup ((sht h p).1.map D.int)) = true := nbxs_ints _
  have n2 : nbx (.tup ((sht h p).2.map D.int)) = true := nbxs_ints _
  have hl : (h.map D.int).length = h.length := List.length_map ..
  have pl : (p.map D.int).length = p.length := List.length_map ..
  have z1 : h.length + p.length ≤ sizeLine := szle (by omega)
  have z0 : ¬ p.length = 0 := by omega
  have z0i : ¬ (p.length : Int) = 0 := by omega
  unfold pairD at sh
  unfold strF4
  have nb : nbx (.int (b : Int)) = true := rfl
  have nk : nbx (.int (k : Int)) = true := rfl
  have a1 := fun (sl : List DL.Slot) (h : sl[0]? = some (.v .box)) => atS1 (d := .int (b : Int)) h rfl
  have a2 := fun (sl : List DL.Slot) (h : sl[0]? = some (.v .box)) => atS2 (d := .int (k : Int)) (x := .int (b : Int)) h rfl
  have a3 := fun (sl : List DL.Slot) (h : sl[0]? = some (.v .box)) => atS3 (x := .int (b : Int)) (y := .int (k : Int)) h n1
  have a4 := fun (z : D) (sl : List DL.Slot) (h : sl[0]? = some (.v .box)) => atS4 (x := .int (b : Int)) (y := .int (k : Int)) (z := z) h n2
  generalize (sht h p).1.map D.int = H2 at *
  generalize (sht h p).2.map D.int = P2 at *
  generalize h.map D.int = H at *
  generalize p.map D.int = P at *
  simp [m_Stream___init__, b_Stream___init__, pl, hl, z0, z0i, lc, z1, il, sh, noX_ap, a1, a2, a3, a4]
theorem strSF_int {a : Int} (h : 0 ≤ a ∧ a < 1000) : strSF [.int a] = some (.v (strG (.int a))) ∧ scalD (strG (.int a)) = true := by
  have lg : a.natAbs.log2 < 1920 := lg_small (k := 10) (by omega) (by decide) (by decide)
  exact ⟨by rw [DL.strSF_int, if_pos lg]; rfl, rfl⟩
theorem stream_text_ok {b k : Nat} {size : Int} {h p : List Int} (hs : size ≤ 1000) (h1 : lts size h) (h2 : lts size p) (hz : h.length + p.length ≤ 1900) : m_Stream_text [strD b k h p] () = .ok (.v (.str (joinS (flw h p)))) () := by
  have jo := join_ok (itm_flw hs h1 h2) (by unfold flw; simp; omega)
  have hl : (h.map D.int).length = h.length := List.length_map ..
  have pl : (p.map D.int).length = p.length := List.length_map ..
  have eL : (h.map D.int ++ D.str ⟨#[40]⟩ :: (p.map D.int ++ [D.str ⟨#[41]⟩])).map strG = tokD (flw h p) := by
    rw [flw_tok, List.map_append, List.map_cons, List.map_append, strG_ints, strG_ints]
    simp [strG]
  have all : ∀ d ∈ h.map D.int ++ D.str ⟨#[40]⟩ :: (p.map D.int ++ [D.str ⟨#[41]⟩]), strSF [d] = some (.v (strG d)) ∧ scalD (strG d) = true := fun d hd => by
    have one : ∀ q : List Int, lts size q → ∀ d ∈ q.map D.int, strSF [d] = some (.v (strG d)) ∧ scalD (strG d) = true := fun q hq d hd => by
      obtain ⟨a, ha, rfl⟩ := List.mem_map.mp hd
      have := hq a ha
      exact strSF_int ⟨this.1, by omega⟩
    rcases List.mem_append.mp hd with z | z
    · exact one h h1 d z
    · rcases List.mem_cons.mp z with rfl | z
      · exact ⟨rfl, rfl⟩
      · rcases List.mem_append.mp z with z | z
        · exact one p h2 d z
        · rw [List.mem_singleton.mp z]; exact ⟨rfl, rfl⟩
  have z1 : (h.map D.int ++ D.str ⟨#[40]⟩ :: (p.map D.int ++ [D.str ⟨#[41]⟩])).length ≤ sizeLine := by
    rw [sizeLine_eq]; simp; omega
  have a1 := at_head b k h p
  have a2 := at_period b k h p
  generalize strD b k h p = SD at *
  have lc : lcM [2] (itM (rdV 1)) q_Stream_text_1t (mret true) q_Stream_text_2e ⟨[.v SD, .o (h.map D.int ++ D.str ⟨#[40]⟩ :: (p.map D.int ++ [D.str ⟨#[41]⟩])), .no], ()⟩ = .ok (.o (tokD (flw h p))) ⟨[.v SD, .v (.lst (h.map D.int ++ D.str ⟨#[40]⟩ :: (p.map D.int ++ [D.str ⟨#[41]⟩]))), .no], ()⟩ := by
    rw [← eL]
    exact lcM_fun (by simp) rfl all z1
  generalize tokD (flw h p) = T at *
  generalize h.map D.int = H at *
  generalize p.map D.int = P at *
  simp at z1
  simp [-lcM_ap, m_Stream_text, b_Stream_text, a1, a2, z1, lc, jo]
theorem stream_eq_ok {b k : Nat} {h p : List Int} : m_Stream___eq__ [strD b k h p, strD b k h p] () = .ok (.v (.bl true)) () := by
  have a1 := at_head b k h p
  have a2 := at_period b k h p
  have a3 := at_base b k h p
  have a4 := at_width b k h p
  have i1 := iso_str b k h p
  have e1 := eqD_ints h h
  have e2 := eqD_ints p p
  rw [decide_eq_true rfl] at e1 e2
  generalize strD b k h p = SD at *
  generalize h.map D.int = H at *
  generalize p.map D.int = P at *
  simp [m_Stream___eq__, b_Stream___eq__, i1, a1, a2, a3, a4, e1, e2]
end K03

set_option Elab.async false
set_option linter.all false
set_option maxRecDepth 100000
namespace K03
open PySem PySem.Spec L2 DL PySem.NumText PyProof.Rows
/-! ### the streams of the program: made, asked for letters, rests, compared -/
abbrev tI (q : List Int) : D := .tup (q.map D.int)
theorem init_gen {b k : Nat} {h p : List Int} (hb : b ≤ 1000) (hp : p ≠ []) (h1 : lts (szN b k : Nat) h) (h2 : lts (szN b k : Nat) p) (hz : h.length ≤ 2000) (pz : p.length ≤ 2000) {f g : List D → D} (hf : f = .tup ∨ f = .lst) (hg : g = .tup ∨ g = .lst) :
    m_Stream___init__ [.box, .int (b : Int), .int (k : Int), f (h.map D.int), g (p.map D.int)] ⟨[]⟩ = .ok (.v .non) ⟨strF4 b k (sht h p).1 (sht h p).2⟩ := by
  have lc := letter_count_ok (k := k) hb
  have pp : 0 < p.length := List.length_pos_iff.mpr hp
  have sh := shortest_ok h p pp (by omega) (by omega)
  have hall : lts (szN b k : Nat) (h ++ p) := fun a ha => (List.mem_append.mp ha).elim (h1 a) (h2 a)
  obtain ⟨s6', il⟩ := init_loop (szN b k : Nat) (.v .box) (.v (.int (b : Int))) (.v (.int (k : Int))) (.v (f (h.map D.int))) (.v (g (p.map D.int))) ⟨[]⟩ (h ++ p) .no hall
  rw [List.map_append] at il
  have n1 : nbx (.tup ((sht h p).1.map D.int)) = true := nbxs_ints _
  have n2 : nbx (.tup ((sht h p).2.map D.int)) = true := nbxs_ints _
  have hl : (h.map D.int).length = h.length := List.length_map ..
  have pl : (p.map D.int).length = p.length := List.length_map ..
  have z1 : h.length + p.length ≤ sizeLine := szle (by omega)
  have z0 : ¬ p.length = 0 := by omega
  have z0i : ¬ (p.length : Int) = 0 := by omega
  unfold pairD at sh
  unfold strF4
  have a1 := fun (sl : List DL.Slot) (h : sl[0]? = some (.v .box)) => atS1 (d := .int (b : Int)) h rfl
  have a2 := fun (sl : List DL.Slot) (h : sl[0]? = some (.v .box)) => atS2 (d := .int (k : Int)) (x := .int (b : Int)) h rfl
  have a3 := fun (sl : List DL.Slot) (h : sl[0]? = some (.v .box)) => atS3 (x := .int (b : Int)) (y := .int (k : Int)) h n1
  have a4 := fun (z : D) (sl : List DL.Slot) (h : sl[0]? = some (.v .box)) => atS4 (x := .int (b : Int)) (y := .int (k : Int)) (z := z) h n2
  generalize (sht h p).1.map D.int = H2 at *
  generalize (sht h p).2.map D.int = P2 at *
  generalize h.map D.int = H at *
  generalize p.map D.int = P at *
  rcases hf with rfl | rfl <;> rcases hg with rfl | rfl <;> simp [m_Stream___init__, b_Stream___init__, pl, hl, z0, z0i, lc, z1, il, sh, noX_ap, a1, a2, a3, a4]
theorem nbF (b k : Nat) (h p : List Int) : nbxF (strF4 b k h p) = true := by
  unfold strF4
  simp
theorem nlF (b k : Nat) (h p : List Int) : nolF (strF4 b k h p) = true := by
  unfold strF4
  simp
theorem ixmod {n l s : Nat} (h : l ≤ n) : ((n : Int) - (l : Int)) % (s : Int) = (((n - l) % s : Nat) : Int) := by
  rw [← Int.ofNat_sub h]; rfl
theorem digit_at_ok {h p : List Int} {n : Nat} {a : Int} (hp : 0 < p.length) (hz : p.length < 1000000) (e : sg h p n = some a) : m_digit_at [.tup [tI h, tI p], .int (n : Int)] () = .ok (.v (.int a)) () := by
  have hl : (h.map D.int).length = h.length := List.length_map ..
  have pl : (p.map D.int).length = p.length := List.length_map ..
  unfold sg at e
  by_cases c : n < h.length
  · rw [if_pos c] at e
    have c' : (n : Int) < (h.length : Int) := by omega
    have g1 : (h.map D.int)[n]? = some (.int a) := by rw [List.getElem?_map, e]; rfl
    unfold tI at *
    generalize h.map D.int = H at *
    generalize p.map D.int = P at *
    have g2 : ∀ hh : n < H.length, H[n]'hh = D.int a := fun hh => by rw [List.getElem?_eq_getElem hh] at g1; exact Option.some.inj g1
    simp [m_digit_at, b_digit_at, noX_ap, hl, pl, c, c', g2]
  · rw [if_neg c] at e
    have c' : ¬ (n : Int) < (h.length : Int) := by omega
    have pp : (0 : Int) < (p.length : Int) := by omega
    have g1 : atI (p.map D.int) (((n : Int) - (h.length : Int)) % (p.length : Int)) = some (.int a) := by
      rw [ixmod (by omega), atI_cast, List.getElem?_map, e]; rfl
    unfold tI at *
    generalize h.map D.int = H at *
    generalize p.map D.int = P at *
    simp [m_digit_at, b_digit_at, noX_ap, hl, pl, c, c', pp, hp, g1]
theorem ins_m (m : Str) (hm : m = "letter" ∨ m = "upto" ∨ m = "rest" ∨ m = "prefixed" ∨ m = "text") (b k : Nat) (h p : List Int) : isIns "Stream" m (strD b k h p) = true := by
  rcases hm with rfl | rfl | rfl | rfl | rfl <;> kernel_rfl
theorem letter_ok {b k : Nat} {h p : List Int} {n : Nat} {a : Int} (hp : 0 < p.length) (hz : p.length < 1000000) (e : sg h p n = some a) (i : Int) (hi : i = (n : Int) + 1) : m_Stream_letter [strD b k h p, .int i] () = .ok (.v (.int a)) () := by
  have d := digit_at_ok hp hz e
  have a1 := at_head b k h p
  have a2 := at_period b k h p
  have ei : i - 1 = (n : Int) := by omega
  unfold tI at d
  generalize strD b k h p = SD at *
  generalize h.map D.int = H at *
  generalize p.map D.int = P at *
  simp [m_Stream_letter, b_Stream_letter, a1, a2, ei, d]
theorem upto_ok {b k : Nat} {h p : List Int} (hp : 0 < p.length) (hz : p.length < 1000000) {n : Nat} (hn : n < 100000) : m_Stream_upto [strD b k h p, .int (n : Int)] = some ((fsI h p n).map D.int) := by
  have hr : (rgL 1 ((n : Int) + 1)).length = n := by rw [rgL_length]; omega
  obtain ⟨ys, s', h1, h2⟩ := gFr_run (t := q_Stream_upto_1t) (g := q_Stream_upto_2b) (fun i ys (s : S Unit) => ys = (fsI h p i).map D.int ∧ ∃ s2, s.sl = [.v (strD b k h p), .v (.int (n : Int)), s2]) (rgL 1 ((n : Int) + 1)) 0 [] ⟨[.v (strD b k h p), .v (.int (n : Int)), .no], ()⟩ ⟨rfl, _, rfl⟩ (fun i d ys s hd hI => by
    obtain ⟨e1, s2, e2⟩ := hI
    obtain ⟨sl, u⟩ := s
    simp only at e2
    subst e1 e2
    have hi : i < n := by
      have := (List.getElem?_eq_some_iff.mp hd).1
      omega
    have ed : d = .int ((i : Int) + 1) := by
      unfold rgL at hd
      rw [List.getElem?_map, List.getElem?_range (by omega)] at hd
      have hd : D.int (1 + (i : Int)) = d := Option.some.inj hd
      rw [← hd, Int.add_comm]
    subst ed
    rw [Nat.zero_add]
    obtain ⟨a, ha, _⟩ := sg_at (h := h) hp i
    have lt := letter_ok (b := b) (k := k) hp hz ha ((i : Int) + 1) rfl
    have im := ins_m "letter" (.inl rfl) b k h p
    refine ⟨⟨[.v (strD b k h p), .v (.int (n : Int)), .v (.int ((i : Int) + 1))], u⟩, _, ⟨[.v (strD b k h p), .v (.int (n : Int)), .v (.int ((i : Int) + 1))], u⟩, rfl, ?_, rfl, _, rfl⟩
    have sn := fsI_snoc ha
    have fl : ((fsI h p i).map D.int).length < sizeLine := by rw [List.length_map, fsI_len, sizeLine_eq]; omega
    rw [show i + 1 = i + 1 from rfl, sn, List.map_append]
    generalize strD b k h p = SD at *
    generalize (fsI h p i).map D.int = F at *
    simp [q_Stream_upto_2b, noX_ap, im, lt, fl])
  obtain ⟨e1, s2, e2⟩ := h2
  obtain ⟨sl, u⟩ := s'
  simp only at e2
  subst e1 e2
  rw [hr, Nat.zero_add] at h1
  have hr2 : rngD2 [.int 1, .int ((n : Int) + 1)] = some (rgL 1 ((n : Int) + 1)) := by rw [rngD2_int, if_pos (by omega)]
  generalize rgL 1 ((n : Int) + 1) = R at *
  generalize strD b k h p = SD at *
  generalize (fsI h p n).map D.int = F at *
  have hb : b_Stream_upto [] ⟨[.v SD, .v (.int (n : Int)), .no], ()⟩ = .ok (.nx, F) ⟨[.v SD, .v (.int (n : Int)), s2], u⟩ := by simp [b_Stream_upto, hr2, h1]
  exact runGen_ok hb
end K03

set_option Elab.async false
set_option linter.all false
set_option maxRecDepth 100000
namespace K03
open PySem PySem.Spec L2 DL PySem.NumText PyProof.Rows
/-! ### rests, letters ahead, repr, equality; the law's letters and rests -/
theorem lts_app {size : Int} {q r : List Int} (h : lts size q) (h' : lts size r) : lts size (q ++ r) := fun a ha => (List.mem_append.mp ha).elim (h a) (h' a)
theorem lts_take {size : Int} {q : List Int} (h : lts size q) (n : Nat) : lts size (q.take n) := fun a ha => h a (List.mem_of_mem_take ha)
theorem lts_drop {size : Int} {q : List Int} (h : lts size q) (n : Nat) : lts size (q.drop n) := fun a ha => h a (List.mem_of_mem_drop ha)
theorem lts_rot {size : Int} {q : List Int} (h : lts size q) (n : Nat) : lts size (rot n q) := lts_app (lts_drop h n) (lts_take h n)
theorem lts_rst {size : Int} {h p : List Int} (h1 : lts size h) (h2 : lts size p) (c : Nat) : lts size (rst h p c).1 ∧ lts size (rst h p c).2 := by
  unfold rst
  split
  · exact ⟨lts_drop h1 _, h2⟩
  · exact ⟨fun a ha => by simp at ha, lts_rot h2 _⟩
theorem rst_len (h p : List Int) (c : Nat) : (rst h p c).1.length ≤ h.length ∧ (rst h p c).2.length = p.length := by
  unfold rst
  split
  · exact ⟨by show (h.drop c).length ≤ _; rw [List.length_drop]; omega, rfl⟩
  · exact ⟨by show ([] : List Int).length ≤ _; simp, rot_len _ _⟩
/-- a writing that may be made -/
structure Wr (b k : Nat) (h p : List Int) : Prop where
  hb : b ≤ 1000
  ne : 0 < p.length
  l1 : lts (szN b k : Nat) h
  l2 : lts (szN b k : Nat) p
  z1 : h.length ≤ 1000
  z2 : p.length ≤ 800
theorem Wr.n {b k : Nat} {h p : List Int} (w : Wr b k h p) : p ≠ [] := List.length_pos_iff.mp w.ne
theorem Wr.init {b k : Nat} {h p : List Int} (w : Wr b k h p) {f g : List D → D} (hf : f = .tup ∨ f = .lst) (hg : g = .tup ∨ g = .lst) :
    m_Stream___init__ [.box, .int (b : Int), .int (k : Int), f (h.map D.int), g (p.map D.int)] ⟨[]⟩ = .ok (.v .non) ⟨strF4 b k (sht h p).1 (sht h p).2⟩ := init_gen w.hb w.n w.l1 w.l2 (by have := w.z1; omega) (by have := w.z2; omega) hf hg
abbrev stD (b k : Nat) (q : List Int × List Int) : D := strD b k q.1 q.2
theorem rest_ok {b k : Nat} {h p : List Int} (w : Wr b k h p) {c : Nat} (hc : c < 100000) : m_Stream_rest [strD b k h p, .int (c : Int)] () = .ok (.v (stD b k (sht (rst h p c).1 (rst h p c).2))) () := by
  have hl : (h.map D.int).length = h.length := List.length_map ..
  have pl : (p.map D.int).length = p.length := List.length_map ..
  have a1 := at_head b k h p
  have a2 := at_period b k h p
  have a3 := at_base b k h p
  have a4 := at_width b k h p
  have hp := w.ne
  by_cases z : c ≤ h.length
  · have z' : (c : Int) ≤ (h.length : Int) := by omega
    have er : rst h p c = (h.drop c, p) := by unfold rst; rw [if_pos z]
    rw [er]
    show _ = Out.ok (RV.v (strD b k (sht (h.drop c) p).1 (sht (h.drop c) p).2)) ()
    have wi := Wr.init (b := b) (k := k) (h := h.drop c) (p := p) ⟨w.hb, w.ne, lts_drop w.l1 _, w.l2, by have := w.z1; rw [List.length_drop]; omega, w.z2⟩ (.inl rfl) (.inl rfl)
    have c1 : cutL (h.map D.int) (some (c : Int)) none = (h.drop c).map D.int := by rw [cutL_from, List.map_drop]
    have nf := nbF b k (sht (h.drop c) p).1 (sht (h.drop c) p).2
    have n1 := nbxs_ints (h.drop c)
    have n2 := nbxs_ints p
    have sd : strD b k (sht (h.drop c) p).1 (sht (h.drop c) p).2 = .ins "Stream" (strF4 b k (sht (h.drop c) p).1 (sht (h.drop c) p).2) := rfl
    rw [sd]
    generalize strF4 b k (sht (h.drop c) p).1 (sht (h.drop c) p).2 = SF at *
    generalize strD b k h p = SD at *
    generalize (h.drop c).map D.int = H2 at *
    generalize h.map D.int = H at *
    generalize p.map D.int = P at *
    simp [m_Stream_rest, b_Stream_rest, a1, a2, a3, a4, hl, pl, z, z', c1, n1, n2, wi, nf]
  · have z' : ¬ (c : Int) ≤ (h.length : Int) := by omega
    have er : rst h p c = ([], rot ((c - h.length) % p.length) p) := by unfold rst; rw [if_neg z]
    rw [er]
    have hm := Nat.mod_lt (c - h.length) hp
    have tn : ((c : Int) - (h.length : Int)) % (p.length : Int) = (((c - h.length) % p.length : Nat) : Int) := ixmod (by omega)
    generalize (c - h.length) % p.length = t at *
    show _ = Out.ok (RV.v (strD b k (sht [] (rot t p)).1 (sht [] (rot t p)).2)) ()
    have wi := Wr.init (b := b) (k := k) (h := []) (p := rot t p) ⟨w.hb, by rw [rot_len]; exact w.ne, fun a ha => by simp at ha, lts_rot w.l2 _, by simp, by rw [rot_len]; exact w.z2⟩ (.inl rfl) (.inl rfl)
    have c1 : cutL (p.map D.int) (some (t : Int)) none = (p.drop t).map D.int := by rw [cutL_from, List.map_drop]
    have c2 : cutL (p.map D.int) none (some (t : Int)) = (p.take t).map D.int := by rw [cutL_to, List.map_take]
    have l1 : ((p.drop t).map D.int).length + ((p.take t).map D.int).length ≤ sizeLine := by
      have := w.z2
      rw [List.length_map, List.length_map, List.length_drop, List.length_take, sizeLine_eq]; omega
    have er2 : (rot t p).map D.int = (p.drop t).map D.int ++ (p.take t).map D.int := by unfold rot; rw [List.map_append]
    rw [er2] at wi
    have nf := nbF b k (sht [] (rot t p)).1 (sht [] (rot t p)).2
    have n2 : nbxs ((p.drop t).map D.int ++ (p.take t).map D.int) = true := by rw [← er2]; exact nbxs_ints _
    have sd : strD b k (sht [] (rot t p)).1 (sht [] (rot t p)).2 = .ins "Stream" (strF4 b k (sht [] (rot t p)).1 (sht [] (rot t p)).2) := rfl
    rw [sd]
    have hpi : (0 : Int) < (p.length : Int) := by omega
    generalize strF4 b k (sht [] (rot t p)).1 (sht [] (rot t p)).2 = SF at *
    generalize strD b k h p = SD at *
    generalize (p.drop t).map D.int = P1 at *
    generalize (p.take t).map D.int = P2 at *
    generalize h.map D.int = H at *
    generalize p.map D.int = P at *
    rw [List.map_nil] at wi
    simp [m_Stream_rest, b_Stream_rest, a1, a2, a3, a4, hl, pl, z, z', hp, hpi, tn, c1, c2, l1, n2, wi, nf]
theorem prefixed_ok {b k : Nat} {h p u : List Int} (w : Wr b k (u ++ h) p) : m_Stream_prefixed [strD b k h p, tI u] () = .ok (.v (stD b k (sht (u ++ h) p))) () := by
  have a1 := at_head b k h p
  have a2 := at_period b k h p
  have a3 := at_base b k h p
  have a4 := at_width b k h p
  have wi := w.init (.inl rfl) (.inl rfl)
  have l1 : (u.map D.int).length + (h.map D.int).length ≤ sizeLine := by
    have := w.z1
    rw [List.length_append] at this
    rw [List.length_map, List.length_map, sizeLine_eq]; omega
  have er2 : (u ++ h).map D.int = u.map D.int ++ h.map D.int := List.map_append
  rw [er2] at wi
  have nf := nbF b k (sht (u ++ h) p).1 (sht (u ++ h) p).2
  have n1 : nbxs (u.map D.int ++ h.map D.int) = true := by rw [← er2]; exact nbxs_ints _
  have n2 := nbxs_ints p
  have sd : stD b k (sht (u ++ h) p) = .ins "Stream" (strF4 b k (sht (u ++ h) p).1 (sht (u ++ h) p).2) := rfl
  rw [sd]
  unfold tI
  generalize strF4 b k (sht (u ++ h) p).1 (sht (u ++ h) p).2 = SF at *
  generalize strD b k h p = SD at *
  generalize h.map D.int = H at *
  generalize u.map D.int = U at *
  generalize p.map D.int = P at *
  simp [m_Stream_prefixed, b_Stream_prefixed, a1, a2, a3, a4, l1, n1, n2, wi, nf]
theorem len_app (x y : Str) : (x ++ y).length = x.length + y.length := by rw [len_cs, len_cs, len_cs, cs_app, List.length_append]
theorem join_len {size : Int} {h p : List Int} (hs : size ≤ 1000) (h1 : lts size h) (h2 : lts size p) (hz : h.length + p.length ≤ 1900) : (joinS (flw h p)).length ≤ 30000 := by
  have := joinL_len (itm_flw hs h1 h2)
  rw [len_cs, cs_join]
  have hf : (flw h p).length = h.length + p.length + 2 := by unfold flw; simp; omega
  omega
def rpS (x : Str) : Str := Str.ofString "Stream(" ++ x ++ ⟨#[41]⟩
theorem emp_app (x : Str) : Str.empty ++ x = x := by
  have : cs (Str.empty ++ x) = cs x := by rw [cs_app]; rfl
  rw [← tx_cs (Str.empty ++ x), this, tx_cs]
theorem fmtD_str {x : Str} (h : x.length ≤ sizeLine) : fmtD (.str x) = some (.v (.str x)) := by
  show (if x.length ≤ sizeLine then some (RV.v (.str x)) else none) = _
  rw [if_pos h]
theorem st7 : (Str.ofString "Stream(").length = 7 := by decide +kernel
theorem cl1 : (⟨#[41]⟩ : Str).length = 1 := by decide +kernel
theorem repr_ok {b k : Nat} {size : Int} {h p : List Int} (hs : size ≤ 1000) (h1 : lts size h) (h2 : lts size p) (hz : h.length + p.length ≤ 1900) : m_Stream___repr__ [strD b k h p] () = .ok (.v (.str (rpS (joinS (flw h p))))) () := by
  have t := stream_text_ok (b := b) (k := k) hs h1 h2 hz
  have jl := join_len hs h1 h2 hz
  have im := ins_m "text" (by simp) b k h p
  unfold rpS
  generalize strD b k h p = SD at *
  generalize joinS (flw h p) = x at *
  have z0 : (Str.ofString "Stream(").length ≤ sizeLine := by rw [st7]; exact szle (by decide)
  have z1 : (Str.ofString "Stream(" ++ x).length ≤ sizeLine := by rw [len_app, st7, sizeLine_eq]; omega
  have z2 : (Str.ofString "Stream(" ++ x ++ ⟨#[41]⟩).length ≤ sizeLine := by rw [len_app, len_app, st7, cl1, sizeLine_eq]; omega
  have fx := fmtD_str (x := x) (by rw [sizeLine_eq]; omega)
  generalize hs7 : Str.ofString "Stream(" = s7 at *
  simp [m_Stream___repr__, b_Stream___repr__, hs7, im, t, emp_app, z0, z1, z2, fx]
theorem eq_gen {b k c l : Nat} {h p u q : List Int} : m_Stream___eq__ [strD b k h p, strD c l u q] () = .ok (.v (.bl (decide (b = c) && decide (k = l) && decide (h = u) && decide (p = q)))) () := by
  have a1 := at_head b k h p
  have a2 := at_period b k h p
  have a3 := at_base b k h p
  have a4 := at_width b k h p
  have b1 := at_head c l u q
  have b2 := at_period c l u q
  have b3 := at_base c l u q
  have b4 := at_width c l u q
  have i1 := iso_str c l u q
  have e1 := eqD_ints h u
  have e2 := eqD_ints p q
  generalize strD b k h p = SD at *
  generalize strD c l u q = SE at *
  generalize h.map D.int = H at *
  generalize p.map D.int = P at *
  generalize u.map D.int = U at *
  generalize q.map D.int = Q at *
  by_cases g1 : b = c
  · by_cases g2 : k = l
    · by_cases g3 : h = u
      · simp [m_Stream___eq__, b_Stream___eq__, i1, a1, a2, a3, a4, b1, b2, b3, b4, e1, e2, g1, g2, g3]
      · simp [m_Stream___eq__, b_Stream___eq__, i1, a1, a2, a3, a4, b1, b2, b3, b4, e1, e2, g1, g2, g3]
    · have g2' : ¬ (k : Int) = (l : Int) := by omega
      simp [m_Stream___eq__, b_Stream___eq__, i1, a1, a2, a3, a4, b1, b2, b3, b4, e1, e2, g1, g2, g2']
  · have g1' : ¬ (b : Int) = (c : Int) := by omega
    simp [m_Stream___eq__, b_Stream___eq__, i1, a1, a2, a3, a4, b1, b2, b3, b4, e1, e2, g1, g1']
theorem eq_str {b k : Nat} {h p : List Int} {x : Str} : m_Stream___eq__ [strD b k h p, .str x] () = .ok (.v (.bl false)) () := by
  have i1 : isoO "Stream" csX (.str x) = some (.v (.bl false)) := rfl
  generalize strD b k h p = SD at *
  simp [m_Stream___eq__, b_Stream___eq__, i1]
theorem eq_tup {b k : Nat} {h p : List Int} {ds : List D} : m_Stream___eq__ [strD b k h p, .tup ds] () = .ok (.v (.bl false)) () := by
  have i1 : isoO "Stream" csX (.tup ds) = some (.v (.bl false)) := rfl
  generalize strD b k h p = SD at *
  simp [m_Stream___eq__, b_Stream___eq__, i1]
theorem sign_ok {h p : List Int} {n : Nat} {a : Int} (hp : 0 < p.length) (hz : p.length < 1000000) (hy : h.length < 100000) (hn : n < 1000000) (e : sg h p n = some a) : m__law_sign [tI h, tI p, .int (n : Int)] () = .ok (.v (.int a)) () := by
  have hl : (h.map D.int).length = h.length := List.length_map ..
  have pl : (p.map D.int).length = p.length := List.length_map ..
  unfold sg at e
  by_cases c : n < h.length
  · rw [if_pos c] at e
    have c' : (n : Int) < (h.length : Int) := by omega
    have g1 : (h.map D.int)[n]? = some (.int a) := by rw [List.getElem?_map, e]; rfl
    unfold tI at *
    generalize h.map D.int = H at *
    generalize p.map D.int = P at *
    have g2 : ∀ hh : n < H.length, H[n]'hh = D.int a := fun hh => by rw [List.getElem?_eq_getElem hh] at g1; exact Option.some.inj g1
    simp [m__law_sign, b__law_sign, hl, pl, c, c', g2]
  · rw [if_neg c] at e
    have c' : ¬ (n : Int) < (h.length : Int) := by omega
    have pp : (0 : Int) < (p.length : Int) := by omega
    have g1 : atI (p.map D.int) (((n : Int) - (h.length : Int)) % (p.length : Int)) = some (.int a) := by
      rw [ixmod (by omega), atI_cast, List.getElem?_map, e]; rfl
    unfold tI at *
    generalize h.map D.int = H at *
    generalize p.map D.int = P at *
    simp [m__law_sign, b__law_sign, hl, pl, c, c', pp, hp, g1]
theorem law_rest_ok {h p : List Int} (hp : 0 < p.length) (hz : p.length < 100000) (hy : h.length < 100000) {c : Nat} (hc : c < 100000) : m__law_rest [tI h, tI p, .int (c : Int)] () = .ok (.v (pairD (sht (rst h p c).1 (rst h p c).2))) () := by
  have hl : (h.map D.int).length = h.length := List.length_map ..
  have pl : (p.map D.int).length = p.length := List.length_map ..
  by_cases z : c ≤ h.length
  · have z' : (c : Int) ≤ (h.length : Int) := by omega
    have er : rst h p c = (h.drop c, p) := by unfold rst; rw [if_pos z]
    rw [er]
    have sh := law_short_ok (h.drop c) p hp hz (by rw [List.length_drop]; omega)
    have c1 : cutL (h.map D.int) (some (c : Int)) none = (h.drop c).map D.int := by rw [cutL_from, List.map_drop]
    show _ = Out.ok (RV.v (pairD (sht (h.drop c) p))) ()
    unfold tI
    generalize pairD (sht (h.drop c) p) = R at *
    generalize (h.drop c).map D.int = H2 at *
    generalize h.map D.int = H at *
    generalize p.map D.int = P at *
    simp [m__law_rest, b__law_rest, hl, pl, z, z', c1, sh]
  · have z' : ¬ (c : Int) ≤ (h.length : Int) := by omega
    have er : rst h p c = ([], rot ((c - h.length) % p.length) p) := by unfold rst; rw [if_neg z]
    rw [er]
    have hm := Nat.mod_lt (c - h.length) hp
    have tn : ((c : Int) - (h.length : Int)) % (p.length : Int) = (((c - h.length) % p.length : Nat) : Int) := ixmod (by omega)
    generalize (c - h.length) % p.length = t at *
    have sh := law_short_ok [] (rot t p) (by rw [rot_len]; exact hp) (by rw [rot_len]; exact hz) (by simp)
    have c1 : cutL (p.map D.int) (some (t : Int)) none = (p.drop t).map D.int := by rw [cutL_from, List.map_drop]
    have c2 : cutL (p.map D.int) none (some (t : Int)) = (p.take t).map D.int := by rw [cutL_to, List.map_take]
    have l1 : ((p.drop t).map D.int).length + ((p.take t).map D.int).length ≤ sizeLine := by
      rw [List.length_map, List.length_map, List.length_drop, List.length_take, sizeLine_eq]; omega
    have er2 : (rot t p).map D.int = (p.drop t).map D.int ++ (p.take t).map D.int := by unfold rot; rw [List.map_append]
    rw [er2, List.map_nil] at sh
    have hpi : (0 : Int) < (p.length : Int) := by omega
    show _ = Out.ok (RV.v (pairD (sht [] (rot t p)))) ()
    unfold tI
    generalize pairD (sht [] (rot t p)) = R at *
    generalize (p.drop t).map D.int = P1 at *
    generalize (p.take t).map D.int = P2 at *
    generalize h.map D.int = H at *
    generalize p.map D.int = P at *
    simp [m__law_rest, b__law_rest, hl, pl, z, z', hp, hpi, tn, c1, c2, l1, sh]
end K03

set_option Elab.async false
set_option linter.all false
set_option maxRecDepth 100000
set_option exponentiation.threshold 1000000
namespace K03
open PySem PySem.Spec L2 DL PySem.NumText PyProof.Rows
/-! ### draws, other writings, the law's look at a stream, a letter changed -/
theorem small9 {n : Nat} (h : n ≤ 1000) : n < 2 ^ 9000 := Nat.lt_of_le_of_lt h (Nat.lt_trans (show 1000 < 2 ^ 20 by decide) (Nat.pow_lt_pow_right (by decide) (by decide)))
theorem drawS {N : Nat} {b : Bx} (h : BxOk N b) (hN : N ≤ 1000000) {size : Nat} (h0 : 0 < size) (hs : size ≤ 1000) : ∃ (d : Nat) (b' : Bx), m__law_draw [.box, .int (size : Int)] b = .ok (.v (.int (d : Int))) b' ∧ d < size ∧ BxOk (N + 1) b' := draw_ok h hN h0 (small9 hs)
theorem room_ok {N : Nat} {b0 : Bx} (h : BxOk N b0) (hN : N + 2 ≤ 1000000) : ∃ (b k : Nat) (b' : Bx), m__law_room [.box] b0 = .ok (.v (.tup [.int (b : Int), .int (k : Int)])) b' ∧ 2 ≤ b ∧ b ≤ 10 ∧ (k = 1 ∨ k = 2 ∧ b ≤ 4) ∧ szN b k ≤ 16 ∧ 2 ≤ szN b k ∧ BxOk (N + 2) b' := by
  obtain ⟨d, b1, e1, e2, e3⟩ := draw_ok h (by omega) (size := 3) (by decide) (by decide)
  have e1 : m__law_draw [.box, .int 3] b0 = _ := e1
  have l2 : Nat.log2 2 < 9000 := by decide
  by_cases hd : d = 2
  · subst hd
    obtain ⟨e, b2, f1, f2, f3⟩ := draw_ok e3 (by omega) (size := 3) (by decide) (by decide)
    have f1 : m__law_draw [.box, .int 3] b1 = _ := f1
    refine ⟨2 + e, 2, b2, ?_, by omega, by omega, .inr ⟨rfl, by omega⟩, ?_, ?_, f3⟩
    · simp [m__law_room, b__law_room, e1, f1, l2]
    · have : e = 0 ∨ e = 1 ∨ e = 2 := by omega
      rcases this with rfl | rfl | rfl <;> decide
    · have : e = 0 ∨ e = 1 ∨ e = 2 := by omega
      rcases this with rfl | rfl | rfl <;> decide
  · obtain ⟨e, b2, f1, f2, f3⟩ := draw_ok e3 (by omega) (size := 9) (by decide) (by decide)
    have f1 : m__law_draw [.box, .int 9] b1 = _ := f1
    refine ⟨2 + e, 1, b2, ?_, by omega, by omega, .inl rfl, ?_, ?_, f3⟩
    · have : d = 0 ∨ d = 1 := by omega
      rcases this with rfl | rfl <;> simp [m__law_room, b__law_room, e1, f1, l2]
    · show (if (1 : Nat) = 1 then 2 + e else _) ≤ 16
      rw [if_pos rfl]; omega
    · show 2 ≤ (if (1 : Nat) = 1 then 2 + e else _)
      rw [if_pos rfl]; omega
theorem ints_of {size : Int} : ∀ {out : List D}, (∀ d ∈ out, ∃ a, d = .int a ∧ 0 ≤ a ∧ a < size) → ∃ q : List Int, out = q.map D.int ∧ lts size q
  | [], _ => ⟨[], rfl, fun a h => by simp at h⟩
  | d :: out, h => by
    obtain ⟨a, rfl, h0, h1⟩ := h d (by simp)
    obtain ⟨q, rfl, hq⟩ := ints_of (out := out) fun e he => h e (List.mem_cons_of_mem _ he)
    refine ⟨a :: q, rfl, fun c hc => ?_⟩
    rcases List.mem_cons.mp hc with rfl | hc
    · exact ⟨h0, h1⟩
    · exact hq c hc
theorem signs_ok {N : Nat} {b0 : Bx} (h : BxOk N b0) {size many : Nat} (hs : 0 < size) (hs2 : size ≤ 1000) (hm : many < 1000) (hN : N + many ≤ 1000000) : ∃ (q : List Int) (b' : Bx), m__law_signs [.box, .int (size : Int), .int (many : Int)] b0 = .ok (.v (.tup (q.map D.int))) b' ∧ q.length = many ∧ lts size q ∧ BxOk (N + many) b' := by
  have hr := rng1_nat (n := many) (by omega)
  obtain ⟨out, s', h1, h2, h3, h4⟩ := lcL_run (own := [3]) (t := q__law_signs_1t) (e := q__law_signs_2e) (fun i (s : S Bx) => ∃ s3, s.sl = [.v .box, .v (.int (size : Int)), .v (.int (many : Int)), s3] ∧ BxOk (N + i) s.bx) (fun _ d => ∃ a, d = D.int a ∧ 0 ≤ a ∧ a < (size : Int)) (rgL 0 (many : Int)) 0 [] ⟨[.v .box, .v (.int (size : Int)), .v (.int (many : Int)), .no], b0⟩ (by
      rw [rgL_length, List.length_nil, sizeLine_eq]; omega) ⟨.no, rfl, h⟩ (fun i d s hd hI => by
    obtain ⟨s3, e1, hb⟩ := hI
    obtain ⟨sl, bb⟩ := s
    simp only at e1 hb
    subst e1
    obtain ⟨hi, rfl⟩ := rgL_get hd
    rw [Nat.zero_add] at hb
    obtain ⟨c, b1, f1, f2, f3⟩ := draw_ok hb (by omega) (size := size) hs (small9 hs2)
    refine ⟨⟨[.v .box, .v (.int (size : Int)), .v (.int (many : Int)), .v (.int (i : Int))], bb⟩, .v (.int (c : Int)), ⟨[.v .box, .v (.int (size : Int)), .v (.int (many : Int)), .v (.int (i : Int))], b1⟩, rfl, ?_, ⟨c, rfl, by omega, by omega⟩, ⟨_, rfl, f3.mono (by omega)⟩⟩
    simp [q__law_signs_2e, f1])
  obtain ⟨s3, e1, hb⟩ := h4
  obtain ⟨sl, bb⟩ := s'
  simp only at e1 hb
  subst e1
  have hlen : (rgL 0 (many : Int)).length = many := rgL_len many
  rw [hlen] at h2 hb
  obtain ⟨q, rfl, hq⟩ := ints_of (size := (size : Int)) (out := out) fun d hd => by
    obtain ⟨i, hi⟩ := List.getElem?_of_mem hd
    exact h3 i d hi
  refine ⟨q, bb, ?_, by simpa using h2, hq, hb.mono (by omega)⟩
  rw [List.nil_append] at h1
  generalize q.map D.int = Q at *
  simp [m__law_signs, b__law_signs, hr, wipeOk, notO, noX_ap, h1, restS]
theorem pl_ints {n : Nat} {q : List Int} (h : q.length < 1000000) : PlD (n + 2) (.tup (q.map D.int)) := .tup (by rw [List.length_map]; exact h) fun d hd => by
  obtain ⟨a, _, rfl⟩ := List.mem_map.mp hd
  exact .int
theorem pl_intl {n : Nat} {q : List Int} (h : q.length < 1000000) : PlD (n + 2) (.lst (q.map D.int)) := .lst (by rw [List.length_map]; exact h) fun d hd => by
  obtain ⟨a, _, rfl⟩ := List.mem_map.mp hd
  exact .int
theorem like_l2 {a b : D} (ha : PlD 5 a) (hb : PlD 5 b) : m__law_like 6 [.lst [a, b], .lst [a, b]] () = .ok (.v (.bl true)) () := like_ok 6 _ (.lst (by simp) fun d hd => by
  simp at hd
  rcases hd with rfl | rfl <;> assumption)
theorem like_l3 {a b c : D} (ha : PlD 5 a) (hb : PlD 5 b) (hc : PlD 5 c) : m__law_like 6 [.lst [a, b, c], .lst [a, b, c]] () = .ok (.v (.bl true)) () := like_ok 6 _ (.lst (by simp) fun d hd => by
  simp at hd
  rcases hd with rfl | rfl | rfl <;> assumption)
theorem like_l4 {a b c d : D} (ha : PlD 5 a) (hb : PlD 5 b) (hc : PlD 5 c) (hd : PlD 5 d) : m__law_like 6 [.lst [a, b, c, d], .lst [a, b, c, d]] () = .ok (.v (.bl true)) () := like_ok 6 _ (.lst (by simp) fun e he => by
  simp at he
  rcases he with rfl | rfl | rfl | rfl <;> assumption)
theorem rot_mem {c : Nat} {p : List Int} {a : Int} (h : a ∈ rot c p) : a ∈ p := by
  unfold rot at h
  exact (List.mem_append.mp h).elim List.mem_of_mem_drop List.mem_of_mem_take
theorem sht_in {size : Int} {h p : List Int} (h1 : lts size h) (h2 : lts size p) (hp : p ≠ []) : lts size (sht h p).1 ∧ lts size (sht h p).2 ∧ (sht h p).2 ≠ [] ∧ (sht h p).1.length ≤ h.length ∧ (sht h p).2.length ≤ p.length := by
  have pp : 0 < p.length := List.length_pos_iff.mpr hp
  have ⟨k1, _, _, k4⟩ := spn_ok pp
  unfold sht
  have ql : (p.take (spn p)).length = spn p := by rw [List.length_take]; omega
  refine ⟨fun a ha => h1 a (List.mem_of_mem_take ha), fun a ha => h2 a (List.mem_of_mem_take (rot_mem ha)), fun z => ?_, by rw [List.length_take]; omega, by rw [rot_len, ql]; exact k4⟩
  have := rot_len ((p.take (spn p)).length - tk h (p.take (spn p)) % (p.take (spn p)).length) (p.take (spn p))
  have z : rot ((p.take (spn p)).length - tk h (p.take (spn p)) % (p.take (spn p)).length) (p.take (spn p)) = [] := z
  rw [z, ql] at this
  simp at this
  omega
theorem Wr.sht {b k : Nat} {h p : List Int} (w : Wr b k h p) : Wr b k (sht h p).1 (sht h p).2 := by
  obtain ⟨a1, a2, a3, a4, a5⟩ := sht_in w.l1 w.l2 w.n
  exact ⟨w.hb, List.length_pos_iff.mpr a3, a1, a2, by have := w.z1; omega, by have := w.z2; omega⟩
theorem sOk_join {size : Int} {h p : List Int} (hs : size ≤ 1000) (h1 : lts size h) (h2 : lts size p) : Asc (cs (joinS (flw h p))) := by
  rw [cs_join]
  have : ∀ {ps : List (List Nat)}, (∀ t ∈ ps, Itm t) → Asc (joinL ps) := by
    intro ps
    induction ps with
    | nil => intro _ c hc; simp [joinL] at hc
    | cons a r ih =>
      intro h c hc
      cases r with
      | nil => exact (h a (by simp)).asc c hc
      | cons b r =>
        rcases List.mem_append.mp hc with hc | hc
        · exact (h a (by simp)).asc c hc
        · rcases List.mem_cons.mp hc with rfl | hc
          · decide
          · exact ih (fun t ht => h t (List.mem_cons_of_mem _ ht)) c hc
  exact this (itm_flw hs h1 h2)
theorem asc_rp {x : Str} (h : Asc (cs x)) : Asc (cs (rpS x)) := fun c hc => by
  unfold rpS at hc
  rw [cs_app, cs_app] at hc
  have e : cs (Str.ofString "Stream(") = [83, 116, 114, 101, 97, 109, 40] := by decide +kernel
  rw [e] at hc
  rcases List.mem_append.mp hc with hc | hc
  · rcases List.mem_append.mp hc with hc | hc
    · simp at hc
      omega
    · exact h c hc
  · have : c = 41 := by simpa [cs] using hc
    omega
theorem same_ok {b k : Nat} {h p : List Int} (w : Wr b k h p) (hs : szN b k ≤ 1000) {q : List Int × List Int} (e : q = sht h p) : m__law_same [stD b k q, .int (b : Int), .int (k : Int), pairD (h, p)] () = .ok (.v (.bl true)) () := by
  subst e
  have ws := w.sht
  have sh := law_short_ok h p w.ne (by have := w.z2; omega) (by have := w.z1; omega)
  have hz : (sht h p).1.length + (sht h p).2.length ≤ 1900 := by have := ws.z1; have := ws.z2; omega
  have hs' : ((szN b k : Nat) : Int) ≤ 1000 := by omega
  have tx := stream_text_ok (b := b) (k := k) hs' ws.l1 ws.l2 hz
  have rp := repr_ok (b := b) (k := k) hs' ws.l1 ws.l2 hz
  have fs := flow_said_ok hs' ws.l1 ws.l2 hz
  have jl := join_len hs' ws.l1 ws.l2 hz
  have sa := sOk_join hs' ws.l1 ws.l2
  have sok := sOk_asc sa
  have rok := sOk_asc (asc_rp sa)
  have p1 : PlD 5 (.tup ((sht h p).1.map D.int)) := pl_ints (by have := ws.z1; omega)
  have p2 : PlD 5 (.tup ((sht h p).2.map D.int)) := pl_ints (by have := ws.z2; omega)
  have lk4 := like_l4 (a := .int (b : Int)) (b := .int (k : Int)) .int .int p1 p2
  have lk3 := like_l3 (a := .str (joinS (flw (sht h p).1 (sht h p).2))) (b := .str (rpS (joinS (flw (sht h p).1 (sht h p).2)))) (c := .bl true) (.str sok) (.str rok) .bl
  have a1 := at_head b k (sht h p).1 (sht h p).2
  have a2 := at_period b k (sht h p).1 (sht h p).2
  have a3 := at_base b k (sht h p).1 (sht h p).2
  have a4 := at_width b k (sht h p).1 (sht h p).2
  have i1 := iso_str b k (sht h p).1 (sht h p).2
  have i2 := isO_str b k (sht h p).1 (sht h p).2
  have im := ins_m "text" (by simp) b k (sht h p).1 (sht h p).2
  have bo : boolO "Stream" (strD b k (sht h p).1 (sht h p).2) = some (.v (.bl true)) := rfl
  have ps : pairD (sht h p) = .tup [.tup ((sht h p).1.map D.int), .tup ((sht h p).2.map D.int)] := rfl
  have pf : pairD (h, p) = .tup [tI h, tI p] := rfl
  rw [ps] at sh
  rw [pf]
  unfold rpS at rp lk3
  show m__law_same [strD b k (sht h p).1 (sht h p).2, _, _, _] () = _
  generalize joinS (flw (sht h p).1 (sht h p).2) = x at *
  generalize strD b k (sht h p).1 (sht h p).2 = SD at *
  unfold tI
  generalize (sht h p).1.map D.int = H2 at *
  generalize (sht h p).2.map D.int = P2 at *
  generalize h.map D.int = H at *
  generalize p.map D.int = P at *
  generalize hs7 : Str.ofString "Stream(" = s7 at *
  have z1 : s7.length + x.length ≤ sizeLine := by rw [← hs7, st7, sizeLine_eq]; omega
  have z2 : (s7 ++ x).length + (⟨#[41]⟩ : Str).length ≤ sizeLine := by rw [len_app, ← hs7, st7, cl1, sizeLine_eq]; omega
  simp [m__law_same, b__law_same, hs7, sh, i1, i2, im, a1, a2, a3, a4, lk4, fs, tx, rp, bo, z1, z2, lk3]
end K03

set_option Elab.async false
set_option linter.all false
set_option maxRecDepth 100000
namespace K03
open PySem PySem.Spec L2 DL PySem.NumText PyProof.Rows
/-! ### other writings, a letter changed -/
theorem longer_ok {b k : Nat} {h p : List Int} (w : Wr b k h p) (hz : h.length ≤ 200) (pz : p.length ≤ 200) {N : Nat} {b0 : Bx} (hb : BxOk N b0) (hN : N + 2 ≤ 1000000) :
    ∃ (u q : List Int) (b' : Bx), m__law_longer [.box, pairD (h, p)] b0 = .ok (.v (pairD (u, q))) b' ∧ (∀ n, sg u q n = sg h p n) ∧ Wr b k u q ∧ BxOk (N + 2) b' := by
  obtain ⟨d, b1, e1, e2, e3⟩ := drawS hb (by omega) (size := 4) (by decide) (by decide)
  have e1 : m__law_draw [.box, .int 4] b0 = _ := e1
  obtain ⟨e, b2, f1, f2, f3⟩ := drawS e3 (by omega) (size := 3) (by decide) (by decide)
  have f1 : m__law_draw [.box, .int 3] b1 = _ := f1
  have hr := rng1_nat (n := d) (by omega)
  obtain ⟨s', h1, u, q, s4, h2, h3, h4, h5, h6, h7⟩ := frM_run (t := q__law_longer_1t) (b := q__law_longer_2b) (fun i (s : S Bx) => ∃ (u q : List Int) (s4 : DL.Slot), s = ⟨[.v .box, .v (pairD (h, p)), .v (tI u), .v (tI q), s4], b1⟩ ∧ (∀ n, sg u q n = sg h p n) ∧ u.length = h.length + i ∧ q.length = p.length ∧ lts (szN b k : Nat) u ∧ lts (szN b k : Nat) q) (rgL 0 (d : Int)) 0 ⟨[.v .box, .v (pairD (h, p)), .v (tI h), .v (tI p), .no], b1⟩ ⟨h, p, .no, rfl, fun _ => rfl, rfl, rfl, w.l1, w.l2⟩ (fun i x s hx hI => by
    obtain ⟨u, q, s4, rfl, g1, g2, g3, g4, g5⟩ := hI
    obtain ⟨hi, rfl⟩ := rgL_get hx
    have qp : 0 < q.length := by have := w.ne; omega
    refine ⟨⟨[.v .box, .v (pairD (h, p)), .v (tI u), .v (tI q), .v (.int (i : Int))], b1⟩, ⟨[.v .box, .v (pairD (h, p)), .v (tI (u ++ q.take 1)), .v (tI (q.drop 1 ++ q.take 1)), .v (.int (i : Int))], b1⟩, rfl, ?_, u ++ q.take 1, q.drop 1 ++ q.take 1, _, rfl, fun n => (sg_roll qp n).trans (g1 n), ?_, ?_, lts_app g4 (lts_take g5 1), lts_app (lts_drop g5 1) (lts_take g5 1)⟩
    · have c1 : cutL (q.map D.int) none (some 1) = (q.take 1).map D.int := by
        have := cutL_to (l := q.map D.int) (n := 1)
        rw [List.map_take]; exact this
      have c2 : cutL (q.map D.int) (some 1) none = (q.drop 1).map D.int := by
        have := cutL_from (l := q.map D.int) (n := 1)
        rw [List.map_drop]; exact this
      have z1 : (u.map D.int).length + ((q.take 1).map D.int).length ≤ sizeLine := by
        rw [List.length_map, List.length_map, List.length_take, sizeLine_eq]; omega
      have z2 : ((q.drop 1).map D.int).length + ((q.take 1).map D.int).length ≤ sizeLine := by
        have := w.z2
        rw [List.length_map, List.length_map, List.length_take, List.length_drop, sizeLine_eq]; omega
      unfold tI
      rw [List.map_append, List.map_append]
      generalize (q.take 1).map D.int = Q1 at *
      generalize (q.drop 1).map D.int = Q2 at *
      generalize u.map D.int = U at *
      generalize q.map D.int = Q at *
      simp [q__law_longer_2b, c1, c2, z1, z2]
    · rw [List.length_append, List.length_take]; omega
    · rw [List.length_append, List.length_take, List.length_drop]; omega)
  subst h2
  have qp : 0 < q.length := by have := w.ne; omega
  have hl : (rgL 0 (d : Int)).length = d := rgL_len d
  rw [hl, Nat.zero_add] at h4
  refine ⟨u, repl q (1 + e), b2, ?_, fun n => (sg_repl qp (by omega) n).trans (h3 n), ⟨w.hb, ?_, h6, ?_, by omega, ?_⟩, f3⟩
  · have mt : mulTD (.tup (q.map D.int)) (.int (1 + (e : Int))) = some (.v (.tup ((repl q (1 + e)).map D.int))) := by
      have pz2 := w.z2
      have hm : q.length * (1 + e) ≤ 800 * 3 := Nat.mul_le_mul (by omega) (by omega)
      rw [mulTD_tup, if_pos ⟨by omega, by omega, by simpa using List.length_pos_iff.mp qp, by
        rw [List.length_map, show (1 + (e : Int)).toNat = 1 + e by omega]; omega⟩, show (1 + (e : Int)).toNat = 1 + e by omega, repl_map]
    have ef : pairD (h, p) = .tup [tI h, tI p] := rfl
    have eg : pairD (u, repl q (1 + e)) = .tup [.tup (u.map D.int), .tup ((repl q (1 + e)).map D.int)] := rfl
    rw [ef] at h1 ⊢
    rw [eg]
    unfold tI at *
    generalize (repl q (1 + e)).map D.int = R at *
    generalize u.map D.int = U at *
    generalize q.map D.int = Q at *
    generalize h.map D.int = H at *
    generalize p.map D.int = P at *
    simp [m__law_longer, b__law_longer, noX_ap, e1, f1, hr, h1, mt]
  · rw [repl_len]; exact Nat.mul_pos (by omega) qp
  · intro a ha
    obtain ⟨i, hi⟩ := List.getElem?_of_mem ha
    have hil := (List.getElem?_eq_some_iff.mp hi).1
    rw [repl_len] at hil
    rw [repl_get _ _ _ hil] at hi
    exact h7 a (List.mem_of_getElem? hi)
  · rw [repl_len, h5]
    have : (1 + e) * p.length ≤ 3 * 200 := Nat.mul_le_mul (by omega) pz
    omega
/-- a letter at a place changed -/
def mov (h p : List Int) (t : Nat) (a : Int) : List Int × List Int := (fsI h p t ++ [a] ++ (sht (rst h p (t + 1)).1 (rst h p (t + 1)).2).1, (sht (rst h p (t + 1)).1 (rst h p (t + 1)).2).2)
theorem sg_mov {h p : List Int} (hp : 0 < p.length) (t : Nat) (a : Int) (n : Nat) : sg (mov h p t a).1 (mov h p t a).2 n = if n = t then some a else sg h p n := by
  have sr := fun n => sg_sht (h := (rst h p (t + 1)).1) (rst_pos (h := h) hp (t + 1)) n
  have rr := fun n => sg_rst (h := h) hp (t + 1) n
  show sg (fsI h p t ++ [a] ++ (sht (rst h p (t + 1)).1 (rst h p (t + 1)).2).1) (sht (rst h p (t + 1)).1 (rst h p (t + 1)).2).2 n = _
  rw [sg_app, List.length_append, fsI_len, List.length_singleton]
  by_cases c1 : n < t
  · rw [if_pos (by omega), if_neg (by omega), List.getElem?_append_left (by rw [fsI_len]; exact c1), fsI_get hp c1]
  · by_cases c2 : n = t
    · rw [if_pos (by omega), if_pos c2, c2, List.getElem?_append_right (by rw [fsI_len]; omega), fsI_len, Nat.sub_self]
      rfl
    · rw [if_neg (by omega), if_neg c2, sr, rr, show n - (t + 1) + (t + 1) = n by omega]
theorem lts_fsI {size : Int} {h p : List Int} (hp : 0 < p.length) (h1 : lts size h) (h2 : lts size p) (n : Nat) : lts size (fsI h p n) := fun a ha => (fsI_mem hp ha).elim (h1 a) (h2 a)
theorem Wr.mov {b k : Nat} {h p : List Int} (w : Wr b k h p) (hz : h.length ≤ 200) {t : Nat} (ht : t ≤ 100) {a : Int} (ha : 0 ≤ a ∧ a < (szN b k : Nat)) : Wr b k (mov h p t a).1 (mov h p t a).2 := by
  obtain ⟨r1, r2⟩ := lts_rst w.l1 w.l2 (t + 1)
  obtain ⟨l1, l2⟩ := rst_len h p (t + 1)
  have hp := rst_pos (h := h) w.ne (t + 1)
  obtain ⟨a1, a2, a3, a4, a5⟩ := sht_in r1 r2 (List.length_pos_iff.mp hp)
  refine ⟨w.hb, List.length_pos_iff.mpr a3, lts_app (lts_app (lts_fsI w.ne w.l1 w.l2 t) fun c hc => by rw [List.mem_singleton.mp hc]; exact ha) a1, a2, ?_, ?_⟩
  · show (fsI h p t ++ [a] ++ _).length ≤ _
    rw [List.length_append, List.length_append, fsI_len, List.length_singleton]
    omega
  · show (K03.sht _ _).2.length ≤ _
    have := w.z2
    omega
theorem moved_ok {b k : Nat} {h p : List Int} (w : Wr b k h p) {t : Nat} (ht : t ≤ 100) (a : Int) : m__law_moved [pairD (h, p), .int (t : Int), .int a] () = .ok (.v (pairD (mov h p t a))) () := by
  have hz := w.z1
  have pz := w.z2
  have ef : pairD (h, p) = .tup [tI h, tI p] := rfl
  have hr := rng1_nat (n := t) (by omega)
  obtain ⟨out, s', h1, h2, h3, s5, h4⟩ := lcL_run (own := [5]) (t := q__law_moved_1t) (e := q__law_moved_2e) (fun i (s : S Unit) => ∃ s5, s = ⟨[.v (.tup [tI h, tI p]), .v (.int (t : Int)), .v (.int a), .no, .no, s5], ()⟩) (fun i d => ∃ c, sg h p i = some c ∧ d = D.int c) (rgL 0 (t : Int)) 0 [] ⟨[.v (.tup [tI h, tI p]), .v (.int (t : Int)), .v (.int a), .no, .no, .no], ()⟩ (by
      rw [rgL_length, List.length_nil, sizeLine_eq]; omega) ⟨.no, rfl⟩ (fun i d s hd hI => by
    obtain ⟨s5, rfl⟩ := hI
    obtain ⟨hi, rfl⟩ := rgL_get hd
    obtain ⟨c, hc, _⟩ := sg_at (h := h) w.ne i
    have sk := sign_ok w.ne (by omega) (by omega) (by omega) hc
    refine ⟨⟨[.v (.tup [tI h, tI p]), .v (.int (t : Int)), .v (.int a), .no, .no, .v (.int (i : Int))], ()⟩, .v (.int c), ⟨[.v (.tup [tI h, tI p]), .v (.int (t : Int)), .v (.int a), .no, .no, .v (.int (i : Int))], ()⟩, rfl, ?_, ⟨c, by rw [Nat.zero_add]; exact hc, rfl⟩, ⟨_, rfl⟩⟩
    generalize tI h = H at *
    generalize tI p = P at *
    simp [q__law_moved_2e, sk])
  subst h4
  have hlen : (rgL 0 (t : Int)).length = t := rgL_len t
  rw [hlen] at h2
  have eo : out = (fsI h p t).map D.int := by
    apply List.ext_getElem?
    intro i
    by_cases hi : i < t
    · obtain ⟨c, hc, e⟩ := h3 i out[i] (List.getElem?_eq_getElem (by omega))
      rw [Nat.zero_add] at hc
      rw [List.getElem?_map, fsI_get w.ne hi, hc, List.getElem?_eq_getElem (by omega), e]
      rfl
    · rw [List.getElem?_eq_none (by omega), List.getElem?_eq_none (by rw [List.length_map, fsI_len]; omega)]
  subst eo
  rw [List.nil_append] at h1
  have rk := law_rest_ok (h := h) w.ne (by omega) (by omega) (c := t + 1) (by omega)
  have rk : m__law_rest [tI h, tI p, .int ((t : Int) + 1)] () = _ := rk
  obtain ⟨r1, r2⟩ := lts_rst w.l1 w.l2 (t + 1)
  obtain ⟨l1, l2⟩ := rst_len h p (t + 1)
  obtain ⟨_, _, _, a4, a5⟩ := sht_in r1 r2 (List.length_pos_iff.mp (rst_pos (h := h) w.ne (t + 1)))
  have em : pairD (mov h p t a) = .tup [.tup ((fsI h p t).map D.int ++ D.int a :: (sht (rst h p (t + 1)).1 (rst h p (t + 1)).2).1.map D.int), .tup ((sht (rst h p (t + 1)).1 (rst h p (t + 1)).2).2.map D.int)] := by
    unfold mov pairD
    simp
  have er : pairD (sht (rst h p (t + 1)).1 (rst h p (t + 1)).2) = .tup [.tup ((sht (rst h p (t + 1)).1 (rst h p (t + 1)).2).1.map D.int), .tup ((sht (rst h p (t + 1)).1 (rst h p (t + 1)).2).2.map D.int)] := rfl
  rw [er] at rk
  rw [em, ef]
  have f1 : ((fsI h p t).map D.int).length = t := by rw [List.length_map, fsI_len]
  have f2 : ((sht (rst h p (t + 1)).1 (rst h p (t + 1)).2).1.map D.int).length ≤ 1000 := by rw [List.length_map]; omega
  generalize (fsI h p t).map D.int = F at *
  generalize (sht (rst h p (t + 1)).1 (rst h p (t + 1)).2).1.map D.int = A at *
  generalize (sht (rst h p (t + 1)).1 (rst h p (t + 1)).2).2.map D.int = B at *
  generalize tI h = H at *
  generalize tI p = P at *
  have z1 : t + 1 ≤ sizeLine := szle (by omega)
  have z2 : t + 1 + A.length ≤ sizeLine := szle (by omega)
  have z3 : t + (A.length + 1) ≤ sizeLine := szle (by omega)
  simp [m__law_moved, b__law_moved, hr, wipeOk, notO, noX_ap, h1, restS, rk, f1, z1, z2, z3]
end K03

set_option Elab.async false
set_option linter.all false
set_option maxRecDepth 100000
namespace K03
open PySem PySem.Spec L2 DL PySem.NumText PyProof.Rows
/-! ### letters asked -/
theorem drawL (s : Nat) (S : Int) (hS : S = (s : Int)) {N : Nat} {b : Bx} (h : BxOk N b) (hN : N ≤ 1000000) (h0 : 0 < s) (hs : s ≤ 1000) : ∃ (d : Nat) (b' : Bx), m__law_draw [.box, .int S] b = .ok (.v (.int (d : Int))) b' ∧ d < s ∧ BxOk (N + 1) b' := by
  subst hS
  exact drawS h hN h0 hs
/-- a draw that says of how many the next one is -/
theorem drawI (s x y : Nat) (S X Y : Int) (hS : S = (s : Int)) (hX : X = (x : Int)) (hY : Y = (y : Int)) {N : Nat} {b : Bx} (h : BxOk N b) (hN : N + 1 ≤ 1000000) (h0 : 0 < s ∧ s ≤ 1000) (hx : 0 < x ∧ x ≤ 1000) (hy : 0 < y ∧ y ≤ 1000) :
    ∃ (d e : Nat) (b1 b2 : Bx), m__law_draw [.box, .int S] b = .ok (.v (.int (d : Int))) b1 ∧ ((d = 0 ∧ (d : Int) = 0 ∧ m__law_draw [.box, .int X] b1 = .ok (.v (.int (e : Int))) b2 ∧ e < x) ∨ (¬ d = 0 ∧ ¬ (d : Int) = 0 ∧ m__law_draw [.box, .int Y] b1 = .ok (.v (.int (e : Int))) b2 ∧ e < y)) ∧ BxOk (N + 2) b2 := by
  obtain ⟨d, b1, e1, e2, e3⟩ := drawL s S hS h (by omega) h0.1 h0.2
  by_cases hd : d = 0
  · obtain ⟨e, b2, f1, f2, f3⟩ := drawL x X hX e3 (by omega) hx.1 hx.2
    exact ⟨d, e, b1, b2, e1, .inl ⟨hd, by omega, f1, f2⟩, f3⟩
  · obtain ⟨e, b2, f1, f2, f3⟩ := drawL y Y hY e3 (by omega) hy.1 hy.2
    exact ⟨d, e, b1, b2, e1, .inr ⟨hd, by omega, f1, f2⟩, f3⟩
theorem la_lc {h p : List Int} (hp : 0 < p.length) (hz : p.length < 1000000) (hy : h.length < 100000) {n : Nat} (hn : n ≤ 1000) (s0 s1 s3 s4 s5 : DL.Slot) (bx : Bx) (s6 : DL.Slot) :
    ∃ s6', lcL [6] q__law_letters_asked_1t (mret true) q__law_letters_asked_2e [] (rgL 0 (n : Int)) ⟨[s0, s1, .v (.tup [tI h, tI p]), s3, s4, s5, s6], bx⟩ = .ok ((fsI h p n).map D.int) ⟨[s0, s1, .v (.tup [tI h, tI p]), s3, s4, s5, s6'], bx⟩ := by
  obtain ⟨out, s', h1, h2, h3, s6', h4⟩ := lcL_run (own := [6]) (t := q__law_letters_asked_1t) (e := q__law_letters_asked_2e) (fun i (s : S Bx) => ∃ s6, s = ⟨[s0, s1, .v (.tup [tI h, tI p]), s3, s4, s5, s6], bx⟩) (fun i d => ∃ c, sg h p i = some c ∧ d = D.int c) (rgL 0 (n : Int)) 0 [] ⟨[s0, s1, .v (.tup [tI h, tI p]), s3, s4, s5, s6], bx⟩ (by
      rw [rgL_length, List.length_nil, sizeLine_eq]; omega) ⟨_, rfl⟩ (fun i d s hd hI => by
    obtain ⟨s6, rfl⟩ := hI
    obtain ⟨hi, rfl⟩ := rgL_get hd
    obtain ⟨c, hc, _⟩ := sg_at (h := h) hp i
    have sk := sign_ok hp hz hy (by omega) hc
    refine ⟨⟨[s0, s1, .v (.tup [tI h, tI p]), s3, s4, s5, .v (.int (i : Int))], bx⟩, .v (.int c), ⟨[s0, s1, .v (.tup [tI h, tI p]), s3, s4, s5, .v (.int (i : Int))], bx⟩, rfl, ?_, ⟨c, by rw [Nat.zero_add]; exact hc, rfl⟩, ⟨_, rfl⟩⟩
    generalize tI h = H at *
    generalize tI p = P at *
    simp [q__law_letters_asked_2e, sk])
  subst h4
  refine ⟨s6', ?_⟩
  have hlen : (rgL 0 (n : Int)).length = n := rgL_len n
  rw [hlen] at h2
  have eo : out = (fsI h p n).map D.int := by
    apply List.ext_getElem?
    intro i
    by_cases hi : i < n
    · obtain ⟨c, hc, e⟩ := h3 i out[i] (List.getElem?_eq_getElem (by omega))
      rw [Nat.zero_add] at hc
      rw [List.getElem?_map, fsI_get hp hi, hc, List.getElem?_eq_getElem (by omega), e]
      rfl
    · rw [List.getElem?_eq_none (by omega), List.getElem?_eq_none (by rw [List.length_map, fsI_len]; omega)]
  rw [h1, List.nil_append, eo]
theorem like_ints {q : List Int} (h : q.length < 1000000) : m__law_like 6 [.lst (q.map D.int), .lst (q.map D.int)] () = .ok (.v (.bl true)) () := like_ok 6 _ (pl_intl h)
theorem mul2 (a : Int) : mulD (.lst [.int a]) (.int 2) = some (.o [.int a, .int a]) := by
  have : mulD (.lst [.int a]) (.int 2) = if -(2 ^ 63) ≤ (2 : Int) ∧ (2 : Int) < 2 ^ 63 ∧ [D.int a].length * (2 : Int).toNat ≤ sizeLine then some (RV.o (List.replicate (2 : Int).toNat [D.int a]).flatten) else none := rfl
  rw [this, if_pos ⟨by decide, by decide, by rw [sizeLine_eq]; show 1 * 2 ≤ _; decide⟩]
  rfl
theorem la_body {b k : Nat} {h p u q : List Int} (w : Wr b k h p) (wu : Wr b k u q) (es : ∀ n, sg u q n = sg h p n) {N : Nat} {b0 : Bx} (hb : BxOk N b0) (hN : N + 4 ≤ 1000000) (s3 s4 s5 : DL.Slot) :
    ∃ s4' s5' b', q__law_letters_asked_4b ⟨[.v .box, .v (strD b k u q), .v (.tup [tI h, tI p]), s3, s4, s5, .no], b0⟩ = .ok .nx ⟨[.v .box, .v (strD b k u q), .v (.tup [tI h, tI p]), s3, s4', s5', .no], b'⟩ ∧ BxOk (N + 4) b' := by
  have hz := w.z1
  have pz := w.z2
  have qz := wu.z2
  obtain ⟨d1, d2, b1, b2, e1, e2, e3⟩ := drawI 4 200 24 4 200 24 rfl rfl rfl hb (by omega) (by decide) (by decide) (by decide)
  obtain ⟨d3, d4, b3, b4, f1, f2, f3⟩ := drawI 8 200 14 8 200 14 rfl rfl rfl e3 (by omega) (by decide) (by decide) (by decide)
  have h2 : d2 < 200 := by rcases e2 with ⟨_, _, _, z⟩ | ⟨_, _, _, z⟩ <;> omega
  have h4 : d4 < 200 := by rcases f2 with ⟨_, _, _, z⟩ | ⟨_, _, _, z⟩ <;> omega
  obtain ⟨a, ha, _⟩ := sg_at (h := h) w.ne d2
  have hu : sg u q d2 = some a := by rw [es]; exact ha
  have lt := letter_ok (b := b) (k := k) wu.ne (by omega) hu (1 + (d2 : Int)) (by omega)
  have sk := sign_ok w.ne (by omega) (by omega) (by omega) ha
  have lk := like_l2 (a := .int a) (b := .int a) .int .int
  have up := upto_ok (b := b) (k := k) (h := u) wu.ne (by omega) (n := d4) (by omega)
  rw [fsI_congr es] at up
  have lki := like_ints (q := fsI h p d4) (by rw [fsI_len]; omega)
  have m2 := mul2 a
  have im1 := ins_m "letter" (by simp) b k u q
  have im2 := ins_m "upto" (by simp) b k u q
  have hr := rng1_nat (n := d4) (by omega)
  obtain ⟨s6', lc⟩ := la_lc (h := h) w.ne (by omega) (by omega) (n := d4) (by omega) (.v .box) (.v (strD b k u q)) s3 (.v (.int (1 + (d2 : Int)))) (.v (.int (d4 : Int))) b4 .no
  have ei : 1 + (d2 : Int) - 1 = (d2 : Int) := by omega
  refine ⟨.v (.int (1 + (d2 : Int))), .v (.int (d4 : Int)), b4, ?_, f3⟩
  generalize strD b k u q = SD at *
  generalize (fsI h p d4).map D.int = F at *
  generalize tI h = H at *
  generalize tI p = P at *
  rcases e2 with ⟨g1, g2, g3, _⟩ | ⟨g1, g2, g3, _⟩ <;> rcases f2 with ⟨k1, k2, k3, _⟩ | ⟨k1, k2, k3, _⟩ <;>
    simp [q__law_letters_asked_4b, e1, f1, g1, g2, g3, k1, k2, k3, im1, im2, lt, perm, perm_cons, ei, sk, m2, lk, up, lki, hr, wipeOk, notO, noX_ap, lc, restS]
end K03

set_option Elab.async false
set_option linter.all false
set_option maxRecDepth 100000
namespace K03
open PySem PySem.Spec L2 DL PySem.NumText PyProof.Rows
theorem letters_asked_ok {b k : Nat} {h p : List Int} (w : Wr b k h p) {N : Nat} {b0 : Bx} (hb : BxOk N b0) (hN : N + 16 ≤ 1000000) :
    ∃ b', m__law_letters_asked [.box, stD b k (sht h p), pairD (h, p)] b0 = .ok (.v (.bl true)) b' ∧ BxOk (N + 16) b' := by
  have ws := w.sht
  have es : ∀ n, sg (sht h p).1 (sht h p).2 n = sg h p n := fun n => sg_sht w.ne n
  have hz := w.z1
  have pz := w.z2
  have qz := ws.z2
  have ef : pairD (h, p) = .tup [tI h, tI p] := rfl
  rw [ef]
  show ∃ b', m__law_letters_asked [.box, strD b k (sht h p).1 (sht h p).2, _] b0 = _ ∧ _
  generalize (sht h p).1 = u at *
  generalize (sht h p).2 = q at *
  obtain ⟨s', h1, s3, s4, s5, bb, h2, h3⟩ := frM_run (t := q__law_letters_asked_3t) (b := q__law_letters_asked_4b) (fun i (s : S Bx) => ∃ s3 s4 s5 bb, s = ⟨[.v .box, .v (strD b k u q), .v (.tup [tI h, tI p]), s3, s4, s5, .no], bb⟩ ∧ BxOk (N + 4 * i) bb) (rgL 0 ((4 : Nat) : Int)) 0 ⟨[.v .box, .v (strD b k u q), .v (.tup [tI h, tI p]), .no, .no, .no, .no], b0⟩ ⟨_, _, _, _, rfl, hb⟩ (fun i d s hd hI => by
    obtain ⟨s3, s4, s5, bb, rfl, hbb⟩ := hI
    obtain ⟨hi, rfl⟩ := rgL_get hd
    rw [Nat.zero_add] at hbb
    obtain ⟨s4', s5', b', g1, g2⟩ := la_body w ws es hbb (by omega) (.v (.int (i : Int))) s4 s5
    exact ⟨⟨[.v .box, .v (strD b k u q), .v (.tup [tI h, tI p]), .v (.int (i : Int)), s4, s5, .no], bb⟩, _, rfl, g1, _, _, _, _, rfl, g2.mono (by omega)⟩)
  subst h2
  have hl : (rgL 0 ((4 : Nat) : Int)).length = 4 := rgL_len 4
  rw [hl] at h3
  have hr := rng1_nat (n := 4) (by decide)
  have hr : rngD1 [.int 4] = some (rgL 0 ((4 : Nat) : Int)) := hr
  obtain ⟨a, ha, _⟩ := sg_at (h := h) w.ne 0
  have sk := sign_ok w.ne (by omega) (by omega) (n := 0) (by omega) ha
  have sk : m__law_sign [tI h, tI p, .int 0] () = _ := sk
  have u0 : m_Stream_upto [strD b k u q, .int 0] = _ := upto_ok (b := b) (k := k) (h := u) ws.ne (by omega) (n := 0) (by omega)
  have u1 : m_Stream_upto [strD b k u q, .int 1] = _ := upto_ok (b := b) (k := k) (h := u) ws.ne (by omega) (n := 1) (by omega)
  have z0 : (fsI u q 0).map D.int = [] := rfl
  have z1 : (fsI u q 1).map D.int = [.int a] := by
    have hu : sg u q 0 = some a := by rw [es]; exact ha
    have := fsI_snoc hu
    rw [this]; rfl
  rw [z0] at u0
  rw [z1] at u1
  have lk := like_l2 (a := .lst []) (b := .lst [.int a]) (.lst (by simp) fun d hd => by simp at hd) (.lst (by simp) fun d hd => by simp at hd; subst hd; exact .int)
  have im := ins_m "upto" (by simp) b k u q
  refine ⟨bb, ?_, h3.mono (by omega)⟩
  generalize strD b k u q = SD at *
  generalize tI h = H at *
  generalize tI p = P at *
  generalize rgL 0 ((4 : Nat) : Int) = R at *
  simp [m__law_letters_asked, b__law_letters_asked, hr, h1, im, u0, u1, perm, perm_cons, sk, lk]
/-! ### rests and letters ahead -/
theorem yO_str (b k : Nat) (h p : List Int) : yOk "Stream" (strD b k h p) = true := by kernel_rfl
theorem e1_ {h p : List Int} (hp : 0 < p.length) (c : Nat) : sht (rst (sht h p).1 (sht h p).2 c).1 (rst (sht h p).1 (sht h p).2 c).2 = sht (sht (rst h p c).1 (rst h p c).2).1 (sht (rst h p c).1 (rst h p c).2).2 := by
  have hs := (sht_can (h := h) hp).pos
  have hr := rst_pos (h := h) hp c
  refine sht_eq (rst_pos hs c) (sht_can hr).pos fun n => ?_
  rw [sg_rst hs, sg_sht hp, sg_sht hr, sg_rst hp]
theorem e2_ {h p u : List Int} (hp : 0 < p.length) : sht (u ++ (sht h p).1) (sht h p).2 = sht (u ++ h) p := by
  have hs := (sht_can (h := h) hp).pos
  refine sht_eq hs hp fun n => ?_
  rw [sg_app, sg_app, sg_sht hp]
theorem e3_ {h p : List Int} (hp : 0 < p.length) (c : Nat) : sht (fsI h p c ++ (sht (rst (sht h p).1 (sht h p).2 c).1 (rst (sht h p).1 (sht h p).2 c).2).1) (sht (rst (sht h p).1 (sht h p).2 c).1 (rst (sht h p).1 (sht h p).2 c).2).2 = sht h p := by
  have hs := (sht_can (h := h) hp).pos
  have hr := rst_pos (h := (sht h p).1) hs c
  refine sht_eq (sht_can hr).pos hp fun n => ?_
  rw [sg_app, fsI_len, sg_sht hr, sg_rst hs, sg_sht hp]
  by_cases z : n < c
  · rw [if_pos z, fsI_get hp z]
  · rw [if_neg z, show n - c + c = n by omega]
theorem e4_ {h p u : List Int} (hp : 0 < p.length) : sht (rst (sht (u ++ h) p).1 (sht (u ++ h) p).2 u.length).1 (rst (sht (u ++ h) p).1 (sht (u ++ h) p).2 u.length).2 = sht h p := by
  have hs := (sht_can (h := u ++ h) hp).pos
  refine sht_eq (rst_pos hs _) hp fun n => ?_
  rw [sg_rst hs, sg_sht hp, sg_app, if_neg (by omega), show n + u.length - u.length = n by omega]
theorem e5_ {h p : List Int} (hp : 0 < p.length) : sht (rst (sht h p).1 (sht h p).2 0).1 (rst (sht h p).1 (sht h p).2 0).2 = sht h p := by
  have hs := (sht_can (h := h) hp).pos
  refine sht_eq (rst_pos hs _) hp fun n => ?_
  rw [sg_rst hs, sg_sht hp]
  rfl
theorem Wr.rst {b k : Nat} {h p : List Int} (w : Wr b k h p) (c : Nat) : Wr b k (rst h p c).1 (rst h p c).2 := by
  obtain ⟨r1, r2⟩ := lts_rst w.l1 w.l2 c
  obtain ⟨l1, l2⟩ := rst_len h p c
  exact ⟨w.hb, rst_pos w.ne c, r1, r2, by have := w.z1; omega, by have := w.z2; omega⟩
theorem Wr.app {b k : Nat} {h p u : List Int} (w : Wr b k h p) (hu : lts (szN b k : Nat) u) (hz : u.length + h.length ≤ 1000) : Wr b k (u ++ h) p := ⟨w.hb, w.ne, lts_app hu w.l1, w.l2, by rw [List.length_append]; exact hz, w.z2⟩
theorem pa_body {b k : Nat} {h p : List Int} (w : Wr b k h p) (hs : szN b k ≤ 1000) (hs0 : 0 < szN b k) (hz : h.length ≤ 200) {N : Nat} {b0 : Bx} (hb : BxOk N b0) (hN : N + 9 ≤ 1000000) (s6 s7 s8 s9 : DL.Slot) :
    ∃ s7' s8' s9' b', q__law_parts_asked_2b ⟨[.v .box, .v (.int (b : Int)), .v (.int (k : Int)), .v (stD b k (sht h p)), .v (pairD (h, p)), .v (.int (szN b k : Nat)), s6, s7, s8, s9], b0⟩ = .ok .nx ⟨[.v .box, .v (.int (b : Int)), .v (.int (k : Int)), .v (stD b k (sht h p)), .v (pairD (h, p)), .v (.int (szN b k : Nat)), s6, s7', s8', s9'], b'⟩ ∧ BxOk (N + 9) b' := by
  have ws := w.sht
  have pz := w.z2
  have hp := w.ne
  obtain ⟨d1, c, b1, b2, e1, e2, e3⟩ := drawI 4 40 10 4 40 10 rfl rfl rfl hb (by omega) (by decide) (by decide) (by decide)
  obtain ⟨d3, b3, f1, f2, f3⟩ := drawL 6 6 rfl e3 (by omega) (by decide) (by decide)
  obtain ⟨u, b4, g1, g2, g3, g4⟩ := signs_ok f3 (size := szN b k) hs0 hs (many := d3) (by omega) (by omega)
  have hc : c < 40 := by rcases e2 with ⟨_, _, _, z⟩ | ⟨_, _, _, z⟩ <;> omega
  have sl := (sht_in w.l1 w.l2 w.n).2.2.2.1
  have wr := ws.rst c
  have r1 := rest_ok ws (c := c) (by omega)
  have l1 := law_rest_ok (h := h) hp (by omega) (by omega) (c := c) (by omega)
  have s1 := same_ok (w.rst c).sht hs (e1_ hp c)
  have wp := ws.app g3 (by omega)
  have p1 := prefixed_ok wp
  have up := upto_ok (b := b) (k := k) (h := (sht h p).1) ws.ne (by have := ws.z2; omega) (n := c) (by omega)
  rw [fsI_congr fun n => sg_sht hp n] at up
  have wf : Wr b k (fsI h p c ++ (sht (rst (sht h p).1 (sht h p).2 c).1 (rst (sht h p).1 (sht h p).2 c).2).1) (sht (rst (sht h p).1 (sht h p).2 c).1 (rst (sht h p).1 (sht h p).2 c).2).2 := by
    refine wr.sht.app (lts_fsI hp w.l1 w.l2 c) ?_
    have := (sht_in wr.l1 wr.l2 wr.n).2.2.2.1
    have := (rst_len (sht h p).1 (sht h p).2 c).1
    rw [fsI_len]; omega
  have p2 := prefixed_ok wf
  rw [e3_ hp c] at p2
  have eq := stream_eq_ok (b := b) (k := k) (h := (sht h p).1) (p := (sht h p).2)
  have s3 := same_ok w hs rfl
  rw [e2_ hp] at p1
  have wu : Wr b k (u ++ h) p := w.app g3 (by omega)
  have s2 := same_ok wu hs rfl
  have r2 := rest_ok wu.sht (c := u.length) (by omega)
  rw [e4_ hp] at r2
  have i1 := ins_m "rest" (by simp) b k (sht h p).1 (sht h p).2
  have i2 := ins_m "prefixed" (by simp) b k (sht h p).1 (sht h p).2
  have i3 := ins_m "upto" (by simp) b k (sht h p).1 (sht h p).2
  have i4 := ins_m "prefixed" (by simp) b k (sht (rst (sht h p).1 (sht h p).2 c).1 (rst (sht h p).1 (sht h p).2 c).2).1 (sht (rst (sht h p).1 (sht h p).2 c).1 (rst (sht h p).1 (sht h p).2 c).2).2
  have i5 := ins_m "rest" (by simp) b k (sht (u ++ h) p).1 (sht (u ++ h) p).2
  have i6 := isO_str b k (sht h p).1 (sht h p).2
  have i7 := yO_str b k (sht h p).1 (sht h p).2
  have ul : (u.map D.int).length = u.length := List.length_map ..
  have z1 : u.length + h.length ≤ sizeLine := szle (by omega)
  have hl : (h.map D.int).length = h.length := List.length_map ..
  have ef : pairD (h, p) = .tup [.tup (h.map D.int), .tup (p.map D.int)] := rfl
  have eu : pairD (u ++ h, p) = .tup [.tup (u.map D.int ++ h.map D.int), .tup (p.map D.int)] := by unfold pairD; rw [List.map_append]
  have el : pairD (sht (rst h p c).1 (rst h p c).2) = pairD ((sht (rst h p c).1 (rst h p c).2).1, (sht (rst h p c).1 (rst h p c).2).2) := rfl
  rw [el] at l1
  rw [eu] at s2
  rw [ef] at s3 ⊢
  refine ⟨.v (.int (c : Int)), .v (tI u), .v (stD b k (sht h p)), b4, ?_, g4.mono (by omega)⟩
  unfold stD tI at *
  generalize strD b k (sht (rst (sht h p).1 (sht h p).2 c).1 (rst (sht h p).1 (sht h p).2 c).2).1 (sht (rst (sht h p).1 (sht h p).2 c).1 (rst (sht h p).1 (sht h p).2 c).2).2 = T1 at *
  generalize strD b k (sht (u ++ h) p).1 (sht (u ++ h) p).2 = T2 at *
  generalize strD b k (sht h p).1 (sht h p).2 = T at *
  generalize pairD ((sht (rst h p c).1 (rst h p c).2).1, (sht (rst h p c).1 (rst h p c).2).2) = R1 at *
  generalize (fsI h p c).map D.int = F at *
  generalize u.map D.int = U at *
  generalize h.map D.int = H at *
  generalize p.map D.int = P at *
  generalize ((szN b k : Nat) : Int) = Z at *
  rcases e2 with ⟨k1, k2, k3, _⟩ | ⟨k1, k2, k3, _⟩ <;>
    simp [q__law_parts_asked_2b, e1, k1, k2, k3, f1, g1, i1, i2, i3, i4, i5, i6, i7, r1, l1, s1, p1, ul, hl, z1, s2, perm, perm_cons, up, p2, eq, s3, r2]
end K03

set_option Elab.async false
set_option linter.all false
set_option maxRecDepth 100000
namespace K03
open PySem PySem.Spec L2 DL PySem.NumText PyProof.Rows
theorem parts_asked_ok {b k : Nat} {h p : List Int} (w : Wr b k h p) (hs : szN b k ≤ 1000) (hs0 : 0 < szN b k) (hz : h.length ≤ 200) {N : Nat} {b0 : Bx} (hb : BxOk N b0) (hN : N + 27 ≤ 1000000) :
    ∃ b', m__law_parts_asked [.box, .int (b : Int), .int (k : Int), stD b k (sht h p), pairD (h, p), .int (szN b k : Nat)] b0 = .ok (.v (.bl true)) b' ∧ BxOk (N + 27) b' := by
  have ws := w.sht
  obtain ⟨s', h1, s6, s7, s8, s9, bb, h2, h3⟩ := frM_run (t := q__law_parts_asked_1t) (b := q__law_parts_asked_2b) (fun i (s : S Bx) => ∃ s6 s7 s8 s9 bb, s = ⟨[.v .box, .v (.int (b : Int)), .v (.int (k : Int)), .v (stD b k (sht h p)), .v (pairD (h, p)), .v (.int (szN b k : Nat)), s6, s7, s8, s9], bb⟩ ∧ BxOk (N + 9 * i) bb) (rgL 0 ((3 : Nat) : Int)) 0 ⟨[.v .box, .v (.int (b : Int)), .v (.int (k : Int)), .v (stD b k (sht h p)), .v (pairD (h, p)), .v (.int (szN b k : Nat)), .no, .no, .no, .no], b0⟩ ⟨_, _, _, _, _, rfl, hb⟩ (fun i d s hd hI => by
    obtain ⟨s6, s7, s8, s9, bb, rfl, hbb⟩ := hI
    obtain ⟨hi, rfl⟩ := rgL_get hd
    rw [Nat.zero_add] at hbb
    obtain ⟨s7', s8', s9', b', g1, g2⟩ := pa_body w hs hs0 hz hbb (by omega) (.v (.int (i : Int))) s7 s8 s9
    exact ⟨⟨[.v .box, .v (.int (b : Int)), .v (.int (k : Int)), .v (stD b k (sht h p)), .v (pairD (h, p)), .v (.int (szN b k : Nat)), .v (.int (i : Int)), s7, s8, s9], bb⟩, _, rfl, g1, _, _, _, _, _, rfl, g2.mono (by omega)⟩)
  subst h2
  have hl : (rgL 0 ((3 : Nat) : Int)).length = 3 := rgL_len 3
  rw [hl] at h3
  have hr := rng1_nat (n := 3) (by decide)
  have hr : rngD1 [.int 3] = some (rgL 0 ((3 : Nat) : Int)) := hr
  have r0 := rest_ok ws (c := 0) (by omega)
  rw [e5_ w.ne] at r0
  have r0 : m_Stream_rest [strD b k (sht h p).1 (sht h p).2, .int 0] () = _ := r0
  have wp : Wr b k ([] ++ (sht h p).1) (sht h p).2 := ws
  have p0 := prefixed_ok wp
  rw [e2_ w.ne] at p0
  have p0 : m_Stream_prefixed [strD b k (sht h p).1 (sht h p).2, .tup []] () = .ok (.v (stD b k (sht h p))) () := p0
  have eq := stream_eq_ok (b := b) (k := k) (h := (sht h p).1) (p := (sht h p).2)
  have i1 := ins_m "rest" (by simp) b k (sht h p).1 (sht h p).2
  have i2 := ins_m "prefixed" (by simp) b k (sht h p).1 (sht h p).2
  have i6 := isO_str b k (sht h p).1 (sht h p).2
  have i7 := yO_str b k (sht h p).1 (sht h p).2
  refine ⟨bb, ?_, h3.mono (by omega)⟩
  unfold stD at *
  generalize strD b k (sht h p).1 (sht h p).2 = T at *
  generalize pairD (h, p) = F at *
  generalize ((szN b k : Nat) : Int) = Z at *
  generalize rgL 0 ((3 : Nat) : Int) = R at *
  simp [m__law_parts_asked, b__law_parts_asked, hr, h1, i1, i2, i6, i7, r0, p0, eq]
/-! ### streams that differ -/
theorem other {a e Z : Int} (h0 : 0 ≤ a) (h1 : a < Z) (h2 : 0 ≤ e) (h3 : e < Z - 1) : 0 ≤ (a + 1 + e) % Z ∧ (a + 1 + e) % Z < Z ∧ (a + 1 + e) % Z ≠ a := by
  refine ⟨Int.emod_nonneg _ (by omega), Int.emod_lt_of_pos _ (by omega), ?_⟩
  by_cases c : a + 1 + e < Z
  · rw [Int.emod_eq_of_lt (by omega) c]; omega
  · rw [← Int.sub_emod_right, Int.emod_eq_of_lt (by omega) (by omega)]; omega
theorem make_at {b k : Nat} {h p : List Int} (w : Wr b k h p) (s : S Bx) (B K : Int) (hB : B = (b : Int)) (hK : K = (k : Int)) :
    mbind (mret [Arg.v (.int B), Arg.v (.int K), Arg.v (tI h), Arg.v (tI p)]) (fun as => mIte (as.length == 4 && noB as) (mbind (rsl as) fun ds => mIte (nbxs ds) (mkO "Stream" (m_Stream___init__ (.box :: ds) ⟨[]⟩)) mbad) mbad) s = .ok (.v (stD b k (sht h p))) s := by
  subst hB hK
  have wi := w.init (.inl rfl) (.inl rfl)
  have nf := nbF b k (sht h p).1 (sht h p).2
  have n1 := nbxs_ints h
  have n2 := nbxs_ints p
  have sd : stD b k (sht h p) = .ins "Stream" (strF4 b k (sht h p).1 (sht h p).2) := rfl
  rw [sd]
  unfold tI
  obtain ⟨sl, u⟩ := s
  generalize strF4 b k (sht h p).1 (sht h p).2 = SF at *
  generalize h.map D.int = H at *
  generalize p.map D.int = P at *
  simp [n1, n2, wi, nf]
theorem initS {b k : Nat} {h p : List Int} (w : Wr b k h p) (B K : Int) (hB : B = (b : Int)) (hK : K = (k : Int)) : ∃ q : IB "Stream", m_Stream___init__ [.box, .int B, .int K, tI h, tI p] ⟨[]⟩ = .ok (.v .non) q ∧ nbxF q.fs = true ∧ D.ins "Stream" q.fs = stD b k (sht h p) := by
  subst hB hK
  exact ⟨_, w.init (.inl rfl) (.inl rfl), nbF .., rfl⟩
theorem unlike_asked_ok {b k : Nat} {h p : List Int} (w : Wr b k h p) (hb2 : b ≤ 10) (hk : k = 1 ∨ k = 2 ∧ b ≤ 4) (hs : szN b k ≤ 16) (hs2 : 2 ≤ szN b k) (hz : h.length ≤ 200) {N : Nat} {b0 : Bx} (hb : BxOk N b0) (hN : N + 3 ≤ 1000000) :
    ∃ b', m__law_unlike_asked [.box, .int (b : Int), .int (k : Int), stD b k (sht h p), pairD (h, p), .int (szN b k : Nat)] b0 = .ok (.v (.bl true)) b' ∧ BxOk (N + 3) b' := by
  have ws := w.sht
  have z1 := w.z1
  have pz := w.z2
  obtain ⟨d1, t, b1, b2, e1, e2, e3⟩ := drawI 3 60 9 3 60 9 rfl rfl rfl hb (by omega) (by decide) (by decide) (by decide)
  obtain ⟨e, b3, f1, f2, f3⟩ := drawL (szN b k - 1) (((szN b k : Nat) : Int) - 1) (by omega) e3 (by omega) (by omega) (by omega)
  have ht : t < 60 := by rcases e2 with ⟨_, _, _, z⟩ | ⟨_, _, _, z⟩ <;> omega
  obtain ⟨a, ha, hm⟩ := sg_at (h := h) w.ne t
  have hal : 0 ≤ a ∧ a < (szN b k : Nat) := hm.elim (w.l1 a) (w.l2 a)
  have sk := sign_ok w.ne (by omega) (by omega) (by omega) ha
  obtain ⟨o1, o2, o3⟩ := other (e := (e : Int)) hal.1 hal.2 (by omega) (by omega)
  have zp : (0 : Int) < (szN b k : Nat) := by omega
  generalize hA : (a + 1 + (e : Int)) % ((szN b k : Nat) : Int) = A at *
  have mo := moved_ok w (t := t) (by omega) A
  have wm := w.mov hz (t := t) (by omega) ⟨o1, o2⟩
  have ne : sht h p ≠ sht (mov h p t A).1 (mov h p t A).2 := sht_ne w.ne wm.ne (n := t) (by
    rw [sg_mov w.ne, if_pos rfl, ha]
    exact fun z => o3 (Option.some.inj z).symm)
  have sm := same_ok wm (by omega) rfl
  obtain ⟨q1, m1, m2, m3⟩ := initS wm b k rfl rfl
  have q1e := eq_gen (b := b) (k := k) (c := b) (l := k) (h := (sht h p).1) (p := (sht h p).2) (u := (sht (mov h p t A).1 (mov h p t A).2).1) (q := (sht (mov h p t A).1 (mov h p t A).2).2)
  have q2e := eq_gen (b := b) (k := k) (c := b) (l := k) (u := (sht h p).1) (q := (sht h p).2) (h := (sht (mov h p t A).1 (mov h p t A).2).1) (p := (sht (mov h p t A).1 (mov h p t A).2).2)
  have v1 : (decide (b = b) && decide (k = k) && decide ((sht h p).1 = (sht (mov h p t A).1 (mov h p t A).2).1) && decide ((sht h p).2 = (sht (mov h p t A).1 (mov h p t A).2).2)) = false := by
    rw [Bool.eq_false_iff]
    intro z
    simp at z
    exact ne (Prod.ext z.1 z.2)
  have v2 : (decide (b = b) && decide (k = k) && decide ((sht (mov h p t A).1 (mov h p t A).2).1 = (sht h p).1) && decide ((sht (mov h p t A).1 (mov h p t A).2).2 = (sht h p).2)) = false := by
    rw [Bool.eq_false_iff]
    intro z
    simp at z
    exact ne (Prod.ext z.1.symm z.2.symm)
  rw [v1] at q1e
  rw [v2] at q2e
  have i1 := isO_str b k (sht h p).1 (sht h p).2
  have i2 := yO_str b k (sht h p).1 (sht h p).2
  have i3 := isO_str b k (sht (mov h p t A).1 (mov h p t A).2).1 (sht (mov h p t A).1 (mov h p t A).2).2
  have i4 := yO_str b k (sht (mov h p t A).1 (mov h p t A).2).1 (sht (mov h p t A).1 (mov h p t A).2).2
  have hs' : ((szN b k : Nat) : Int) ≤ 1000 := by omega
  have hz2 : (sht h p).1.length + (sht h p).2.length ≤ 1900 := by have := ws.z1; have := ws.z2; omega
  have tx := stream_text_ok (b := b) (k := k) hs' ws.l1 ws.l2 hz2
  have rp := repr_ok (b := b) (k := k) hs' ws.l1 ws.l2 hz2
  have im := ins_m "text" (by simp) b k (sht h p).1 (sht h p).2
  have a1 := at_head b k (sht h p).1 (sht h p).2
  have a2 := at_period b k (sht h p).1 (sht h p).2
  have es := fun x => eq_str (b := b) (k := k) (h := (sht h p).1) (p := (sht h p).2) (x := x)
  have et := fun ds => eq_tup (b := b) (k := k) (h := (sht h p).1) (p := (sht h p).2) (ds := ds)
  -- other bases and widths
  have w1 : k = 1 → b < 10 → ∃ q : IB "Stream", m_Stream___init__ [.box, .int ((b : Int) + 1), .int 1, tI h, tI p] ⟨[]⟩ = .ok (.v .non) q ∧ nbxF q.fs = true ∧ isO "Stream" (.ins "Stream" q.fs) = true ∧ m_Stream___eq__ [.ins "Stream" q.fs, strD b k (sht h p).1 (sht h p).2] () = .ok (.v (.bl false)) () := fun hk1 hlt => by
    subst hk1
    have wb : Wr (b + 1) 1 h p := ⟨by omega, w.ne, fun x hx => by have := w.l1 x hx; have e1 : szN b 1 = b := rfl; have e2 : szN (b + 1) 1 = b + 1 := rfl; omega, fun x hx => by have := w.l2 x hx; have e1 : szN b 1 = b := rfl; have e2 : szN (b + 1) 1 = b + 1 := rfl; omega, w.z1, w.z2⟩
    obtain ⟨q, m1, m2, m3⟩ := initS wb ((b : Int) + 1) 1 (by omega) rfl
    refine ⟨q, m1, m2, rfl, ?_⟩
    rw [m3]
    have := eq_gen (b := b + 1) (k := 1) (c := b) (l := 1) (h := (sht h p).1) (p := (sht h p).2) (u := (sht h p).1) (q := (sht h p).2)
    rw [show decide (b + 1 = b) = false by simp] at this
    simpa using this
  have w2 : k = 1 → b < 5 → ∃ q : IB "Stream", m_Stream___init__ [.box, .int (b : Int), .int 2, tI h, tI p] ⟨[]⟩ = .ok (.v .non) q ∧ nbxF q.fs = true ∧ isO "Stream" (.ins "Stream" q.fs) = true ∧ m_Stream___eq__ [.ins "Stream" q.fs, strD b k (sht h p).1 (sht h p).2] () = .ok (.v (.bl false)) () := fun hk1 hlt => by
    subst hk1
    have e1 : szN b 1 = b := rfl
    have e2 : szN b 2 = b * b := rfl
    have le : b ≤ b * b := Nat.le_mul_self b
    have wb : Wr b 2 h p := ⟨by omega, w.ne, fun x hx => by have := w.l1 x hx; omega, fun x hx => by have := w.l2 x hx; omega, w.z1, w.z2⟩
    obtain ⟨q, m1, m2, m3⟩ := initS wb (b : Int) 2 rfl rfl
    refine ⟨q, m1, m2, rfl, ?_⟩
    rw [m3]
    have := eq_gen (b := b) (k := 2) (c := b) (l := 1) (h := (sht h p).1) (p := (sht h p).2) (u := (sht h p).1) (q := (sht h p).2)
    simpa using this
  refine ⟨b3, ?_, f3⟩
  have ef : pairD (h, p) = .tup [tI h, tI p] := rfl
  have em : pairD (mov h p t A) = .tup [tI (mov h p t A).1, tI (mov h p t A).2] := rfl
  have en : pairD ((mov h p t A).1, (mov h p t A).2) = .tup [tI (mov h p t A).1, tI (mov h p t A).2] := rfl
  have n1 : nbx (tI h) = true := nbxs_ints _
  have n2 : nbx (tI p) = true := nbxs_ints _
  have n3 : nbx (tI (mov h p t A).1) = true := nbxs_ints _
  have n4 : nbx (tI (mov h p t A).2) = true := nbxs_ints _
  rw [ef] at mo ⊢
  rw [em] at mo
  rw [en] at sm
  unfold stD at *
  generalize strD b k (sht h p).1 (sht h p).2 = T at *
  generalize strD b k (sht (mov h p t A).1 (mov h p t A).2).1 (sht (mov h p t A).1 (mov h p t A).2).2 = T2 at *
  generalize tI (mov h p t A).1 = U at *
  generalize tI (mov h p t A).2 = V at *
  generalize tI h = H at *
  generalize tI p = P at *
  generalize (sht h p).1.map D.int = H1 at *
  generalize (sht h p).2.map D.int = P1 at *
  generalize ((szN b k : Nat) : Int) = Z at *
  rcases e2 with ⟨k1, k2, k3, _⟩ | ⟨k1, k2, k3, _⟩ <;> rcases hk with hk | ⟨hk, _⟩
  all_goals first
    | (have hk' : ¬ k = 1 := by omega
       have hki : ¬ (k : Int) = 1 := by omega
       simp [m__law_unlike_asked, b__law_unlike_asked, e1, k1, k2, k3, sk, f1, zp, hA, mo, n3, n4, m1, m2, m3, i1, i2, i3, i4, q1e, q2e, sm, hk', hki, im, tx, rp, es, et, a1, a2]
       done)
    | skip
  all_goals
    generalize hK : (k : Int) = K at *
    have hK1 : K = 1 := by omega
    subst hK1
    by_cases c9 : b < 10
    · have c9i : (b : Int) < 10 := by omega
      obtain ⟨q9, x1, x2, x3, x4⟩ := w1 hk c9
      by_cases c5 : b < 5
      · have c5i : (b : Int) < 5 := by omega
        obtain ⟨q5, y1, y2, y3, y4⟩ := w2 hk c5
        simp [m__law_unlike_asked, b__law_unlike_asked, e1, k1, k2, k3, sk, f1, zp, hA, mo, n1, n2, n3, n4, m1, m2, m3, i1, i2, i3, i4, q1e, q2e, sm, c9, c9i, c5, c5i, x1, x2, x3, x4, y1, y2, y3, y4, im, tx, rp, es, et, a1, a2]
      · have c5i : ¬ (b : Int) < 5 := by omega
        simp [m__law_unlike_asked, b__law_unlike_asked, e1, k1, k2, k3, sk, f1, zp, hA, mo, n1, n2, n3, n4, m1, m2, m3, i1, i2, i3, i4, q1e, q2e, sm, c9, c9i, c5, c5i, x1, x2, x3, x4, im, tx, rp, es, et, a1, a2]
    · have c9i : ¬ (b : Int) < 10 := by omega
      have c5 : ¬ b < 5 := by omega
      have c5i : ¬ (b : Int) < 5 := by omega
      simp [m__law_unlike_asked, b__law_unlike_asked, e1, k1, k2, k3, sk, f1, zp, hA, mo, n1, n2, n3, n4, m1, m2, m3, i1, i2, i3, i4, q1e, q2e, sm, c9, c9i, c5, c5i, im, tx, rp, es, et, a1, a2]
end K03

set_option Elab.async false
set_option linter.all false
set_option maxRecDepth 100000
namespace K03
open PySem PySem.Spec L2 DL
def _law_refused_here_p0 : M Bx Fl := asgM 5 (callB 2 m__law_of (argC (argV (rdV 0)) (argC (argV (eApp lstD (lstC (rdV 4) (lstC (eUn negD (cst (.int 1))) (lstC (eBin addD (rdV 4) (cst (.int 1))) (lstC (eBin subD (cst (.int 0)) (rdV 4)) (lstC (cst (.int 1000)) (mret [])))))))) (mret []))))
def _law_refused_here_p1 : M Bx Fl := parO 6 7 (eAppB listF (argC (argV (eIx (argN 3) (cst (.int 0)))) (mret []))) (eAppB listF (argC (argV (eIx (argN 3) (cst (.int 1)))) (mret [])))
def _law_refused_here_p2 : M Bx Fl := ifM (tstB (eBinB eqD (argV (callB 2 m__law_draw (argC (argV (rdV 0)) (argC (argV (cst (.int 2))) (mret []))))) (argV (cst (.int 0))))) (dropM (metM 6 insertF (lstC (callB 2 m__law_draw (argC (argV (rdV 0)) (argC (argV (eBin addD (eAppB lenF (argC (argN 6) (mret []))) (cst (.int 1)))) (mret [])))) (lstC (rdV 5) (mret []))))) (dropM (metM 7 insertF (lstC (callB 2 m__law_draw (argC (argV (rdV 0)) (argC (argV (eBin addD (eAppB lenF (argC (argN 7) (mret []))) (cst (.int 1)))) (mret [])))) (lstC (rdV 5) (mret [])))))
def _law_refused_here_p3 : M Bx Fl := ifM (tNotM (truM (argV (refusedM xsn smX m__law_likeR (makeB "Stream" 4 m_Stream___init__ (argC (argV (rdV 1)) (argC (argV (rdV 2)) (argC (argN 6) (argC (argN 7) (mret [])))))) (eApp tupD (lstC (cst (.str "BadStream")) (lstC (cst (.int 0)) (mret [])))))))) (retM (cst (.bl false))) (mret .nx)
def _law_refused_here_p4 : M Bx Fl := ifM (tNotM (truM (argV (refusedM xsn smX m__law_likeR (makeM "Stream" 4 m_Stream___init__ (argC (argV (rdV 1)) (argC (argV (rdV 2)) (argC (argV (eIx (argN 3) (cst (.int 0)))) (argC (argV (eApp tupD (mret []))) (mret [])))))) (eApp tupD (lstC (cst (.str "BadStream")) (lstC (cst (.int 0)) (mret [])))))))) (retM (cst (.bl false))) (mret .nx)
def _law_refused_here_p5 : M Bx Fl := retM (refusedM xsn smX m__law_likeR (makeK "Stream" 4 [3, 2, 1, 0] m_Stream___init__ (argC (argV (eApp lstD (mret []))) (argC (argV (eApp lstD (lstC (rdV 5) (mret [])))) (argC (argV (rdV 2)) (argC (argV (rdV 1)) (mret [])))))) (eApp tupD (lstC (cst (.str "BadStream")) (lstC (cst (.int 0)) (mret [])))))
theorem _law_refused_here_eq : b__law_refused_here = seqM _law_refused_here_p0 (seqM _law_refused_here_p1 (seqM _law_refused_here_p2 (seqM _law_refused_here_p3 (seqM _law_refused_here_p4 _law_refused_here_p5)))) := rfl
def law_p0 : M Bx Fl := asgT (callB 1 m__law_room (argC (argV (rdV 1)) (mret []))) (gtM 2 (gsC (fun d => stV 2 (.v d)) (gsC (fun d => stV 3 (.v d)) (fun ds => match ds with | [] => mret () | _ => mbad))))
def law_p1 : M Bx Fl := asgM 4 (eIfM (tstB (eBinB eqD (argN 3) (argV (cst (.int 1))))) (rdV 2) (eBin mulD (rdV 2) (rdV 2)))
def law_p2 : M Bx Fl := asgM 5 (eIfM (tstB (eBinB eqD (argV (callB 2 m__law_draw (argC (argV (rdV 1)) (argC (argV (cst (.int 10))) (mret []))))) (argV (cst (.int 0))))) (cst (.int 40)) (cst (.int 6)))
def law_p3 : M Bx Fl := asgM 6 (eApp tupD (lstC (callB 3 m__law_signs (argC (argV (rdV 1)) (argC (argV (rdV 4)) (argC (argV (callB 2 m__law_draw (argC (argV (rdV 1)) (argC (argV (rdV 5)) (mret []))))) (mret []))))) (lstC (callB 3 m__law_signs (argC (argV (rdV 1)) (argC (argV (rdV 4)) (argC (argV (eBin addD (cst (.int 1)) (callB 2 m__law_draw (argC (argV (rdV 1)) (argC (argV (rdV 5)) (mret [])))))) (mret []))))) (mret []))))
def law_p4 : M Bx Fl := ifM (tstB (eBinB eqD (argV (callB 2 m__law_draw (argC (argV (rdV 1)) (argC (argV (cst (.int 3))) (mret []))))) (argV (cst (.int 0))))) (asgM 6 (eApp tupD (lstC (eBin addD (eIx (argN 6) (cst (.int 0))) (eSl (argV (eIx (argN 6) (cst (.int 1)))) (partM (callB 2 m__law_draw (argC (argV (rdV 1)) (argC (argV (eAppB lenF (argC (argV (eIx (argN 6) (cst (.int 1)))) (mret [])))) (mret []))))) (mret none))) (lstC (eBin mulTD (eIx (argN 6) (cst (.int 1))) (eBin addD (cst (.int 1)) (callB 2 m__law_draw (argC (argV (rdV 1)) (argC (argV (cst (.int 3))) (mret [])))))) (mret []))))) (mret .nx)
def law_p5 : M Bx Fl := parO 7 8 (eAppB listF (argC (argV (eIx (argN 6) (cst (.int 0)))) (mret []))) (eAppB listF (argC (argV (eIx (argN 6) (cst (.int 1)))) (mret [])))
def law_p6 : M Bx Fl := asgM 9 (makeB "Stream" 4 m_Stream___init__ (argC (argV (rdV 2)) (argC (argV (rdV 3)) (argC (argN 7) (argC (argN 8) (mret []))))))
def law_p7 : M Bx Fl := ifM (tNotM (truM (argV (callPL (m__law_like 6) 7 8 (eApp lstD (lstC (eAppB listF (argC (argV (eIx (argN 6) (cst (.int 0)))) (mret []))) (lstC (eAppB listF (argC (argV (eIx (argN 6) (cst (.int 1)))) (mret []))) (mret [])))))))) (retM (cst (.bl false))) (mret .nx)
def law_p8 : M Bx Fl := dropM (metM 7 appendF (lstC (cst (.int 0)) (mret [])))
def law_p9 : M Bx Fl := sixM 8 (eBin modD (eAppB intF (argC (argV (eBin addD (eIx (argN 8) (cst (.int 0))) (cst (.int 1)))) (mret []))) (rdV 4)) (cst (.int 0))
def law_p10 : M Bx Fl := ifM (tNotM (truM (argV (callP 4 m__law_same (argC (argV (rdV 9)) (argC (argV (rdV 2)) (argC (argV (rdV 3)) (argC (argV (rdV 6)) (mret []))))))))) (retM (cst (.bl false))) (mret .nx)
def law_p11 : M Bx Fl := seqM (forM (rngM1 (lstC (cst (.int 3)) (mret []))) q_law_1t q_law_2b) (seqM (ifM (tOrM (tNotM (truM (argV (callB 3 m__law_letters_asked (argC (argV (rdV 1)) (argC (argV (rdV 9)) (argC (argV (rdV 6)) (mret [])))))))) (tNotM (truM (argV (callB 6 m__law_parts_asked (argC (argV (rdV 1)) (argC (argV (rdV 2)) (argC (argV (rdV 3)) (argC (argV (rdV 9)) (argC (argV (rdV 6)) (argC (argV (rdV 4)) (mret [])))))))))))) (retM (cst (.bl false))) (mret .nx)) (retM (eAndM (callB 6 m__law_unlike_asked (argC (argV (rdV 1)) (argC (argV (rdV 2)) (argC (argV (rdV 3)) (argC (argV (rdV 9)) (argC (argV (rdV 6)) (argC (argV (rdV 4)) (mret [])))))))) (eAndM (callB 5 m__law_refused_here (argC (argV (rdV 1)) (argC (argV (rdV 2)) (argC (argV (rdV 3)) (argC (argV (rdV 6)) (argC (argV (rdV 4)) (mret []))))))) (callP 4 m__law_same (argC (argV (rdV 9)) (argC (argV (rdV 2)) (argC (argV (rdV 3)) (argC (argV (rdV 6)) (mret []))))))))))
theorem law_eq : b_law = seqM law_p0 (seqM law_p1 (seqM law_p2 (seqM law_p3 (seqM law_p4 (seqM law_p5 (seqM law_p6 (seqM law_p7 (seqM law_p8 (seqM law_p9 (seqM law_p10 law_p11)))))))))) := rfl
end K03

set_option Elab.async false
set_option linter.all false
set_option maxRecDepth 100000
namespace K03
open PySem PySem.Spec L2 DL PySem.NumText PyProof.Rows
/-! ### what is refused -/
def whys : List Str := ["the period is empty", "an integer is no letter"]
def excW (c w : Str) (n : Nat) : Exc := ⟨c, [("why", .str w), ("item", .int (n : Int))]⟩
theorem init_loop_bad (size : Int) (s0 s1 s2 s3 s4 : DL.Slot) (q : IB "Stream") : ∀ (ls : List Int) (s6 : DL.Slot), (∃ a ∈ ls, ¬ (0 ≤ a ∧ a < size)) → ∃ s6', frM q_Stream___init___1t q_Stream___init___2b (ls.map D.int) ⟨[s0, s1, s2, s3, s4, .v (.int size), s6], q⟩ = .exc (excW "BadStream" "an integer is no letter" 0) ⟨[s0, s1, s2, s3, s4, .v (.int size), s6'], q⟩
  | [], s6, h => by obtain ⟨a, ha, _⟩ := h; simp at ha
  | a :: ls, s6, h => by
    by_cases c : 0 ≤ a ∧ a < size
    · have h' : ∃ a ∈ ls, ¬ (0 ≤ a ∧ a < size) := by
        obtain ⟨x, hx, hn⟩ := h
        rcases List.mem_cons.mp hx with rfl | hx
        · exact absurd c hn
        · exact ⟨x, hx, hn⟩
      obtain ⟨s6', ih⟩ := init_loop_bad size s0 s1 s2 s3 s4 q ls (.v (.int a)) h'
      refine ⟨s6', ?_⟩
      rw [List.map_cons, frM_step (s1 := ⟨[s0, s1, s2, s3, s4, .v (.int size), .v (.int a)], q⟩) (by rfl), ← ih]
      simp [q_Stream___init___2b, c.1, c.2]
    · refine ⟨.v (.int a), ?_⟩
      rw [List.map_cons, frM_step (s1 := ⟨[s0, s1, s2, s3, s4, .v (.int size), .v (.int a)], q⟩) (by rfl)]
      show _ = Out.exc ⟨"BadStream", [("why", .str "an integer is no letter"), ("item", .int 0)]⟩ _
      by_cases c0 : 0 ≤ a
      · have c1 : ¬ a < size := fun z => c ⟨c0, z⟩
        simp [q_Stream___init___2b, c0, c1]
      · simp [q_Stream___init___2b, c0]
theorem init_bad {b k : Nat} {h p : List Int} (hb : b ≤ 1000) (hp : 0 < p.length) (hx : ∃ a ∈ h ++ p, ¬ (0 ≤ a ∧ a < ((szN b k : Nat) : Int))) (hz : h.length ≤ 2000) (pz : p.length ≤ 2000) :
    m_Stream___init__ [.box, .int (b : Int), .int (k : Int), .lst (h.map D.int), .lst (p.map D.int)] ⟨[]⟩ = .exc (excW "BadStream" "an integer is no letter" 0) ⟨[]⟩ := by
  have lc := letter_count_ok (k := k) hb
  obtain ⟨s6', il⟩ := init_loop_bad (szN b k : Nat) (.v .box) (.v (.int (b : Int))) (.v (.int (k : Int))) (.v (.lst (h.map D.int))) (.v (.lst (p.map D.int))) ⟨[]⟩ (h ++ p) .no hx
  rw [List.map_append] at il
  have hl : (h.map D.int).length = h.length := List.length_map ..
  have pl : (p.map D.int).length = p.length := List.length_map ..
  have z1 : h.length + p.length ≤ sizeLine := szle (by omega)
  have z0 : ¬ p.length = 0 := by omega
  have z0i : ¬ (p.length : Int) = 0 := by omega
  generalize excW "BadStream" "an integer is no letter" 0 = E at *
  generalize h.map D.int = H at *
  generalize p.map D.int = P at *
  simp [m_Stream___init__, b_Stream___init__, pl, hl, z0, z0i, lc, z1, il]
theorem init_empty {f : List D → D} (hf : f = .tup ∨ f = .lst) (B K H : D) : m_Stream___init__ [.box, B, K, H, f []] ⟨[]⟩ = .exc (excW "BadStream" "the period is empty" 0) ⟨[]⟩ := by
  show _ = Out.exc ⟨"BadStream", [("why", .str "the period is empty"), ("item", .int 0)]⟩ _
  rcases hf with rfl | rfl <;> simp [m_Stream___init__, b_Stream___init__]
theorem xf_why (x y : D) (s : S Unit) : xfO xsX "why" s (some (.v (.exc "BadStream" [("why", x), ("item", y)]))) = .ok (.v x) s := by kernel_rfl
theorem xf_item (x y : D) (s : S Unit) : xfO xsX "item" s (some (.v (.exc "BadStream" [("why", x), ("item", y)]))) = .ok (.v y) s := by kernel_rfl
theorem why_ok {w : Str} : m__law_why [.exc "BadStream" (excW "BadStream" w 0).fs, .int 0] () = .ok (.v (.tup [.int 0])) () := by
  show m__law_why [.exc "BadStream" [("why", .str w), ("item", .int 0)], .int 0] () = _
  simp [m__law_why, b__law_why]
theorem caught_ok {w : Str} : m__law_caught [.exc "BadStream" (excW "BadStream" w 0).fs, .str "BadStream", .tup [.int 0]] () = .ok (.v (.tup [.str "BadStream", .int 0])) () := by
  have e1 : eqD (.str "BadStream") (.str "NoSuch") = some (.v (.bl false)) := by kernel_rfl
  have e2 : eqD (.str "BadStream") (.str "Ended") = some (.v (.bl false)) := by kernel_rfl
  have e3 : m__law_classes [.exc "BadStream" (excW "BadStream" w 0).fs] () = .ok (.o [.str "BadStream", .str "BendlessError", .str "ValueError"]) () := by kernel_rfl
  have e4 : eqD (.lst [.str "BadStream", .str "BendlessError", .str "ValueError"]) (.lst [.str "BadStream", .str "BendlessError", .str "ValueError"]) = some (.v (.bl true)) := by kernel_rfl
  generalize (excW "BadStream" w 0).fs = fs at *
  simp [m__law_caught, b__law_caught, e1, e2, e3, e4]
theorem caught_stream {w : Str} : caughtT smX (excW "BadStream" w 0) = some (.tup [.str "BadStream", .int 0]) := by
  have lk : smX.lookup ("BadStream" : Str) = some su_1 := by kernel_rfl
  have h1 := why_ok (w := w)
  have h2 := caught_ok (w := w)
  have x1 := fun s => xf_item (.str w) (.int 0) s
  have r : su_1 ⟨[.no, .v (.exc "BadStream" (excW "BadStream" w 0).fs)], ()⟩ = .ok (.rt (.v (.tup [.str "BadStream", .int 0]))) ⟨[.no, .v (.exc "BadStream" (excW "BadStream" w 0).fs)], ()⟩ := by
    have x2 : ∀ s, xfO xsX "item" s (some (.v (.exc "BadStream" (excW "BadStream" w 0).fs))) = .ok (.v (.int 0)) s := x1
    generalize (excW "BadStream" w 0).fs = fs at *
    simp [-xfO_exc, su_1, h1, h2, x2]
  unfold caughtT
  show ((smX.lookup ("BadStream" : Str)).bind _) = _
  rw [lk]
  show (match su_1 ⟨[.no, .v (.exc "BadStream" (excW "BadStream" w 0).fs)], ()⟩ with | .ok (.rt (.v d)) _ => some d | _ => none) = _
  rw [r]
theorem like_stream : m__law_likeR [.tup [.str "BadStream", .int 0], .tup [.str "BadStream", .int 0]] () = .ok (.v (.bl true)) () := like_ok 6 _ (.tup (by simp) fun d hd => by
  simp at hd
  rcases hd with rfl | rfl
  · exact .str (by decide +kernel)
  · exact .int)
theorem ref_ok {w : Str} {md mb : M Bx RV} {st s1 s2 : S Bx} (h1 : md st = .ok (.v (.tup [.str "BadStream", .int 0])) s1) (h2 : mb s1 = .exc (excW "BadStream" w 0) s2) : refusedM xsn smX m__law_likeR mb md st = .ok (.v (.bl true)) s2 :=
  refused_ok (xs := xsn) (sm := smX) (mL := m__law_likeR) h1 h2 (by show (("BadStream" : Str)) ∈ xsn; decide) caught_stream like_stream
theorem nlE {w : Str} : nolF (excW "BadStream" w 0).fs = true := rfl
theorem nbE {w : Str} : nbxF (excW "BadStream" w 0).fs = true := rfl
theorem refused_here_ok {b k : Nat} {h p : List Int} (w : Wr b k h p) (hs : szN b k ≤ 16) (hs2 : 2 ≤ szN b k) {N : Nat} {b0 : Bx} (hb : BxOk N b0) (hN : N + 3 ≤ 1000000) :
    ∃ b', m__law_refused_here [.box, .int (b : Int), .int (k : Int), pairD (h, p), .int (szN b k : Nat)] b0 = .ok (.v (.bl true)) b' ∧ BxOk (N + 3) b' := by
  have z1 := w.z1
  have pz := w.z2
  have hp := w.ne
  have ef : pairD (h, p) = .tup [.tup (h.map D.int), .tup (p.map D.int)] := rfl
  rw [ef]
  have hl : (h.map D.int).length = h.length := List.length_map ..
  have pl : (p.map D.int).length = p.length := List.length_map ..
  obtain ⟨d, b1, e1, e2, e3⟩ := of_ok hb (by omega) [.int (szN b k : Nat), .int (-1), .int (((szN b k : Nat) : Int) + 1), .int (0 - ((szN b k : Nat) : Int)), .int 1000] (by simp) (by simp)
  have hx : ∃ x : Int, d = .int x ∧ ¬ (0 ≤ x ∧ x < ((szN b k : Nat) : Int)) := by
    simp at e2
    rcases e2 with rfl | rfl | rfl | rfl | rfl
    · exact ⟨_, rfl, by omega⟩
    · exact ⟨_, rfl, by omega⟩
    · exact ⟨_, rfl, by omega⟩
    · exact ⟨_, rfl, by omega⟩
    · exact ⟨_, rfl, by omega⟩
  obtain ⟨x, rfl, hx⟩ := hx
  have q0 : _law_refused_here_p0 ⟨[.v .box, .v (.int (b : Int)), .v (.int (k : Int)), .v (.tup [.tup (h.map D.int), .tup (p.map D.int)]), .v (.int (szN b k : Nat)), .no, .no, .no], b0⟩ = .ok .nx ⟨[.v .box, .v (.int (b : Int)), .v (.int (k : Int)), .v (.tup [.tup (h.map D.int), .tup (p.map D.int)]), .v (.int (szN b k : Nat)), .v (.int x), .no, .no], b1⟩ := by
    generalize h.map D.int = H at *
    generalize p.map D.int = P at *
    generalize ((szN b k : Nat) : Int) = Z at *
    have e1' : m__law_of [.box, .lst [.int Z, .int (-1), .int (Z + 1), .int (-Z), .int 1000]] b0 = .ok (.v (.int x)) b1 := by
      rw [Int.zero_sub] at e1; exact e1
    simp [_law_refused_here_p0, e1, e1']
  have q1 : _law_refused_here_p1 ⟨[.v .box, .v (.int (b : Int)), .v (.int (k : Int)), .v (.tup [.tup (h.map D.int), .tup (p.map D.int)]), .v (.int (szN b k : Nat)), .v (.int x), .no, .no], b1⟩ = .ok .nx ⟨[.v .box, .v (.int (b : Int)), .v (.int (k : Int)), .v (.tup [.tup (h.map D.int), .tup (p.map D.int)]), .v (.int (szN b k : Nat)), .v (.int x), .o (h.map D.int), .o (p.map D.int)], b1⟩ := by
    generalize h.map D.int = H at *
    generalize p.map D.int = P at *
    simp [_law_refused_here_p1, noX_ap]
  obtain ⟨c, b2, f1, f2, f3⟩ := drawL 2 2 rfl e3 (by omega) (by decide) (by decide)
  have q2 : ∃ (u q : List Int) (b3 : Bx), _law_refused_here_p2 ⟨[.v .box, .v (.int (b : Int)), .v (.int (k : Int)), .v (.tup [.tup (h.map D.int), .tup (p.map D.int)]), .v (.int (szN b k : Nat)), .v (.int x), .o (h.map D.int), .o (p.map D.int)], b1⟩ = .ok .nx ⟨[.v .box, .v (.int (b : Int)), .v (.int (k : Int)), .v (.tup [.tup (h.map D.int), .tup (p.map D.int)]), .v (.int (szN b k : Nat)), .v (.int x), .o (u.map D.int), .o (q.map D.int)], b3⟩ ∧ BxOk (N + 3) b3 ∧ u.length ≤ 1001 ∧ q.length ≤ 801 ∧ 0 < q.length ∧ x ∈ u ++ q := by
    by_cases hc : c = 0
    · have hci : (c : Int) = 0 := by omega
      obtain ⟨e, b3, g1, g2, g3⟩ := draw_ok f3 (by omega) (size := h.length + 1) (by omega) (Nat.lt_of_le_of_lt (by omega : h.length + 1 ≤ 2 ^ 20) (Nat.pow_lt_pow_right (by decide) (by decide)))
      have g1 : m__law_draw [.box, .int ((h.length : Int) + 1)] b2 = _ := g1
      have ins : insertF (h.map D.int) [.int (e : Int), .int x] = some (.non, (h.take e ++ [x] ++ h.drop e).map D.int) := by
        rw [insertF_two, if_pos ⟨by rw [hl, sizeLine_eq]; omega, by omega, by omega⟩, Int.toNat_natCast]
        simp [List.map_take, List.map_drop]
      refine ⟨h.take e ++ [x] ++ h.drop e, p, b3, ?_, g3, by simp; omega, by omega, hp, by simp⟩
      generalize (h.take e ++ [x] ++ h.drop e).map D.int = U at *
      generalize h.map D.int = H at *
      generalize p.map D.int = P at *
      simp [-insertF_two, _law_refused_here_p2, f1, hc, hci, hl, g1, ins]
    · have hci : ¬ (c : Int) = 0 := by omega
      obtain ⟨e, b3, g1, g2, g3⟩ := draw_ok f3 (by omega) (size := p.length + 1) (by omega) (Nat.lt_of_le_of_lt (by omega : p.length + 1 ≤ 2 ^ 20) (Nat.pow_lt_pow_right (by decide) (by decide)))
      have g1 : m__law_draw [.box, .int ((p.length : Int) + 1)] b2 = _ := g1
      have ins : insertF (p.map D.int) [.int (e : Int), .int x] = some (.non, (p.take e ++ [x] ++ p.drop e).map D.int) := by
        rw [insertF_two, if_pos ⟨by rw [pl, sizeLine_eq]; omega, by omega, by omega⟩, Int.toNat_natCast]
        simp [List.map_take, List.map_drop]
      refine ⟨h, p.take e ++ [x] ++ p.drop e, b3, ?_, g3, by omega, by simp; omega, by simp; omega, by simp⟩
      generalize (p.take e ++ [x] ++ p.drop e).map D.int = U at *
      generalize h.map D.int = H at *
      generalize p.map D.int = P at *
      simp [-insertF_two, _law_refused_here_p2, f1, hc, hci, pl, g1, ins]
  obtain ⟨u, q, b3, q2, g3, ul, ql, qp, mem⟩ := q2
  have ib := init_bad (k := k) w.hb qp ⟨x, mem, hx⟩ (by omega) (by omega)
  have ie := fun (f : List D → D) (hf : f = .tup ∨ f = .lst) (B K H : D) => init_empty hf B K H
  have ie1 := ie .tup (.inl rfl)
  have ie2 := ie .lst (.inr rfl)
  have n1 := nbxs_ints u
  have n2 := nbxs_ints q
  have n3 := nbxs_ints h
  have nl1 := nlE (w := "an integer is no letter")
  have nb1 := nbE (w := "the period is empty")
  have r3 := fun md mb st s1 s2 => ref_ok (w := "an integer is no letter") (md := md) (mb := mb) (st := st) (s1 := s1) (s2 := s2)
  have r4 := fun md mb st s1 s2 => ref_ok (w := "the period is empty") (md := md) (mb := mb) (st := st) (s1 := s1) (s2 := s2)
  generalize excW "BadStream" "an integer is no letter" 0 = E1 at *
  generalize excW "BadStream" "the period is empty" 0 = E2 at *
  generalize u.map D.int = U at *
  generalize q.map D.int = Q at *
  generalize h.map D.int = H at *
  generalize p.map D.int = P at *
  generalize ((szN b k : Nat) : Int) = Z at *
  have q3 : _law_refused_here_p3 ⟨[.v .box, .v (.int (b : Int)), .v (.int (k : Int)), .v (.tup [.tup H, .tup P]), .v (.int Z), .v (.int x), .o U, .o Q], b3⟩ = .ok .nx ⟨[.v .box, .v (.int (b : Int)), .v (.int (k : Int)), .v (.tup [.tup H, .tup P]), .v (.int Z), .v (.int x), .o U, .o Q], b3⟩ := by
    have rr := r3 (eApp tupD (lstC (cst (.str "BadStream")) (lstC (cst (.int 0)) (mret [])))) (makeB "Stream" 4 m_Stream___init__ (argC (argV (rdV 1)) (argC (argV (rdV 2)) (argC (argN 6) (argC (argN 7) (mret [])))))) ⟨[.v .box, .v (.int (b : Int)), .v (.int (k : Int)), .v (.tup [.tup H, .tup P]), .v (.int Z), .v (.int x), .o U, .o Q], b3⟩ ⟨[.v .box, .v (.int (b : Int)), .v (.int (k : Int)), .v (.tup [.tup H, .tup P]), .v (.int Z), .v (.int x), .o U, .o Q], b3⟩ ⟨[.v .box, .v (.int (b : Int)), .v (.int (k : Int)), .v (.tup [.tup H, .tup P]), .v (.int Z), .v (.int x), .o U, .o Q], b3⟩ (by simp) (by simp [n1, n2, ib, nl1])
    simp [_law_refused_here_p3, rr]
  have q4 : _law_refused_here_p4 ⟨[.v .box, .v (.int (b : Int)), .v (.int (k : Int)), .v (.tup [.tup H, .tup P]), .v (.int Z), .v (.int x), .o U, .o Q], b3⟩ = .ok .nx ⟨[.v .box, .v (.int (b : Int)), .v (.int (k : Int)), .v (.tup [.tup H, .tup P]), .v (.int Z), .v (.int x), .o U, .o Q], b3⟩ := by
    have rr := r4 (eApp tupD (lstC (cst (.str "BadStream")) (lstC (cst (.int 0)) (mret [])))) (makeM "Stream" 4 m_Stream___init__ (argC (argV (rdV 1)) (argC (argV (rdV 2)) (argC (argV (eIx (argN 3) (cst (.int 0)))) (argC (argV (eApp tupD (mret []))) (mret [])))))) ⟨[.v .box, .v (.int (b : Int)), .v (.int (k : Int)), .v (.tup [.tup H, .tup P]), .v (.int Z), .v (.int x), .o U, .o Q], b3⟩ ⟨[.v .box, .v (.int (b : Int)), .v (.int (k : Int)), .v (.tup [.tup H, .tup P]), .v (.int Z), .v (.int x), .o U, .o Q], b3⟩ ⟨[.v .box, .v (.int (b : Int)), .v (.int (k : Int)), .v (.tup [.tup H, .tup P]), .v (.int Z), .v (.int x), .o U, .o Q], b3⟩ (by simp) (by simp [n3, ie1, nb1])
    simp [_law_refused_here_p4, rr]
  have q5 : _law_refused_here_p5 ⟨[.v .box, .v (.int (b : Int)), .v (.int (k : Int)), .v (.tup [.tup H, .tup P]), .v (.int Z), .v (.int x), .o U, .o Q], b3⟩ = .ok (.rt (.v (.bl true))) ⟨[.v .box, .v (.int (b : Int)), .v (.int (k : Int)), .v (.tup [.tup H, .tup P]), .v (.int Z), .v (.int x), .o U, .o Q], b3⟩ := by
    have rr := r4 (eApp tupD (lstC (cst (.str "BadStream")) (lstC (cst (.int 0)) (mret [])))) (makeK "Stream" 4 [3, 2, 1, 0] m_Stream___init__ (argC (argV (eApp lstD (mret []))) (argC (argV (eApp lstD (lstC (rdV 5) (mret [])))) (argC (argV (rdV 2)) (argC (argV (rdV 1)) (mret [])))))) ⟨[.v .box, .v (.int (b : Int)), .v (.int (k : Int)), .v (.tup [.tup H, .tup P]), .v (.int Z), .v (.int x), .o U, .o Q], b3⟩ ⟨[.v .box, .v (.int (b : Int)), .v (.int (k : Int)), .v (.tup [.tup H, .tup P]), .v (.int Z), .v (.int x), .o U, .o Q], b3⟩ ⟨[.v .box, .v (.int (b : Int)), .v (.int (k : Int)), .v (.tup [.tup H, .tup P]), .v (.int Z), .v (.int x), .o U, .o Q], b3⟩ (by simp) (by simp [perm, perm_cons, ie2, nb1])
    simp [_law_refused_here_p5, rr]
  refine ⟨b3, ?_, g3⟩
  simp [m__law_refused_here, _law_refused_here_eq, q0, q1, q2, q3, q4, q5]
end K03

set_option Elab.async false
set_option linter.all false
set_option maxRecDepth 100000
set_option maxHeartbeats 1000000
namespace K03
open PySem PySem.Spec L2 DL PySem.NumText PyProof.Rows
/-! ### the law -/
theorem lb_ok {b k : Nat} {h p : List Int} (w : Wr b k h p) (hs : szN b k ≤ 16) (hz : h.length ≤ 200) (pz : p.length ≤ 200) {N : Nat} {b0 : Bx} (hb : BxOk N b0) (hN : N + 2 ≤ 1000000) (s0 s4 s5 s7 s8 s10 s11 s12 : DL.Slot) :
    ∃ s11' s12' b', q_law_2b ⟨[s0, .v .box, .v (.int (b : Int)), .v (.int (k : Int)), s4, s5, .v (pairD (h, p)), s7, s8, .v (stD b k (sht h p)), s10, s11, s12], b0⟩ = .ok .nx ⟨[s0, .v .box, .v (.int (b : Int)), .v (.int (k : Int)), s4, s5, .v (pairD (h, p)), s7, s8, .v (stD b k (sht h p)), s10, s11', s12'], b'⟩ ∧ BxOk (N + 2) b' := by
  obtain ⟨u, q, b1, l1, l2, l3, l4⟩ := longer_ok w hz pz hb hN
  have es : sht u q = sht h p := sht_eq l3.ne w.ne l2
  have wi := l3.init (.inr rfl) (.inl rfl)
  rw [es] at wi
  have nf := nbF b k (sht h p).1 (sht h p).2
  have sd : stD b k (sht h p) = .ins "Stream" (strF4 b k (sht h p).1 (sht h p).2) := rfl
  have sm := same_ok w (by omega) rfl
  have eq := stream_eq_ok (b := b) (k := k) (h := (sht h p).1) (p := (sht h p).2)
  have i6 := isO_str b k (sht h p).1 (sht h p).2
  have i7 := yO_str b k (sht h p).1 (sht h p).2
  have eu : pairD (u, q) = .tup [.tup (u.map D.int), .tup (q.map D.int)] := rfl
  have n1 := nbxs_ints u
  have n2 := nbxs_ints q
  refine ⟨.v (pairD (u, q)), .v (stD b k (sht h p)), b1, ?_, l4⟩
  rw [eu] at l1 ⊢
  unfold stD at *
  generalize hF : strF4 b k (sht h p).1 (sht h p).2 = SF at *
  generalize strD b k (sht h p).1 (sht h p).2 = T at *
  generalize u.map D.int = U at *
  generalize q.map D.int = Q at *
  generalize pairD (h, p) = F at *
  have sd' : D.ins "Stream" SF = T := sd.symm
  simp [q_law_2b, l1, perm, perm_cons, n1, n2, wi, nf, sd', i6, i7, eq, sm]
theorem law_tail {b k : Nat} {h p : List Int} (w : Wr b k h p) (hb2 : b ≤ 10) (hk : k = 1 ∨ k = 2 ∧ b ≤ 4) (hs : szN b k ≤ 16) (hs2 : 2 ≤ szN b k) (hz : h.length ≤ 200) (pz : p.length ≤ 200) {N : Nat} {b0 : Bx} (hb : BxOk N b0) (hN : N + 100 ≤ 1000000) (s0 s5 s7 s8 : DL.Slot) :
    ∃ s', law_p11 ⟨[s0, .v .box, .v (.int (b : Int)), .v (.int (k : Int)), .v (.int (szN b k : Nat)), s5, .v (pairD (h, p)), s7, s8, .v (stD b k (sht h p)), .no, .no, .no], b0⟩ = .ok (.rt (.v (.bl true))) s' := by
  obtain ⟨s', h1, s10, s11, s12, bb, h2, h3⟩ := frM_run (t := q_law_1t) (b := q_law_2b) (fun i (s : S Bx) => ∃ s10 s11 s12 bb, s = ⟨[s0, .v .box, .v (.int (b : Int)), .v (.int (k : Int)), .v (.int (szN b k : Nat)), s5, .v (pairD (h, p)), s7, s8, .v (stD b k (sht h p)), s10, s11, s12], bb⟩ ∧ BxOk (N + 2 * i) bb) (rgL 0 ((3 : Nat) : Int)) 0 ⟨[s0, .v .box, .v (.int (b : Int)), .v (.int (k : Int)), .v (.int (szN b k : Nat)), s5, .v (pairD (h, p)), s7, s8, .v (stD b k (sht h p)), .no, .no, .no], b0⟩ ⟨_, _, _, _, rfl, hb⟩ (fun i d s hd hI => by
    obtain ⟨s10, s11, s12, bb, rfl, hbb⟩ := hI
    obtain ⟨hi, rfl⟩ := rgL_get hd
    rw [Nat.zero_add] at hbb
    obtain ⟨s11', s12', b', g1, g2⟩ := lb_ok w hs hz pz hbb (by omega) s0 (.v (.int (szN b k : Nat))) s5 s7 s8 (.v (.int (i : Int))) s11 s12
    exact ⟨⟨[s0, .v .box, .v (.int (b : Int)), .v (.int (k : Int)), .v (.int (szN b k : Nat)), s5, .v (pairD (h, p)), s7, s8, .v (stD b k (sht h p)), .v (.int (i : Int)), s11, s12], bb⟩, _, rfl, g1, _, _, _, _, rfl, g2.mono (by omega)⟩)
  subst h2
  have hl : (rgL 0 ((3 : Nat) : Int)).length = 3 := rgL_len 3
  rw [hl] at h3
  have hr := rng1_nat (n := 3) (by decide)
  have hr : rngD1 [.int 3] = some (rgL 0 ((3 : Nat) : Int)) := hr
  obtain ⟨b1, a1, a2⟩ := letters_asked_ok w h3 (by omega)
  obtain ⟨b2, c1, c2⟩ := parts_asked_ok w (by omega) (by omega) hz a2 (by omega)
  obtain ⟨b3, d1, d2⟩ := unlike_asked_ok w hb2 hk hs hs2 hz c2 (by omega)
  obtain ⟨b4, e1, e2⟩ := refused_here_ok w hs hs2 d2 (by omega)
  have sm := same_ok w (by omega) rfl
  refine ⟨⟨[s0, .v .box, .v (.int (b : Int)), .v (.int (k : Int)), .v (.int (szN b k : Nat)), s5, .v (pairD (h, p)), s7, s8, .v (stD b k (sht h p)), s10, s11, s12], b4⟩, ?_⟩
  generalize stD b k (sht h p) = T at *
  generalize pairD (h, p) = F at *
  generalize ((szN b k : Nat) : Int) = Z at *
  generalize rgL 0 ((3 : Nat) : Int) = R at *
  simp [law_p11, hr, h1, a1, c1, d1, e1, sm]
theorem law_true : ∀ ns : List Int, ns.length ≤ 63 → lawR 13 b_law ns := fun ns _ => by
  have h0 := bx0_ok ns
  obtain ⟨b, k, b1, e1, hb2, hb10, hk, hs16, hs2, k1⟩ := room_ok h0 (by omega)
  have szE : law_p1 ⟨[.no, .v .box, .v (.int (b : Int)), .v (.int (k : Int)), .no, .no, .no, .no, .no, .no, .no, .no, .no], b1⟩ = .ok .nx ⟨[.no, .v .box, .v (.int (b : Int)), .v (.int (k : Int)), .v (.int (szN b k : Nat)), .no, .no, .no, .no, .no, .no, .no, .no], b1⟩ := by
    have mo : mulOk (b : Int) (b : Int) = true := mul_bd (by omega) (by omega)
    rcases hk with rfl | ⟨rfl, _⟩
    · simp [law_p1, szN]
    · simp [law_p1, szN, mo]
  obtain ⟨d1, b2, e2, _, k2⟩ := drawL 10 10 rfl k1 (by omega) (by decide) (by decide)
  obtain ⟨m, hm, p2⟩ : ∃ m : Nat, (1 ≤ m ∧ m ≤ 40) ∧ law_p2 ⟨[.no, .v .box, .v (.int (b : Int)), .v (.int (k : Int)), .v (.int (szN b k : Nat)), .no, .no, .no, .no, .no, .no, .no, .no], b1⟩ = .ok .nx ⟨[.no, .v .box, .v (.int (b : Int)), .v (.int (k : Int)), .v (.int (szN b k : Nat)), .v (.int (m : Int)), .no, .no, .no, .no, .no, .no, .no], b2⟩ := by
    by_cases hd : d1 = 0
    · have hdi : (d1 : Int) = 0 := by omega
      exact ⟨40, by decide, by simp [law_p2, e2, hd, hdi]⟩
    · have hdi : ¬ (d1 : Int) = 0 := by omega
      exact ⟨6, by decide, by simp [law_p2, e2, hd, hdi]⟩
  obtain ⟨d2, b3, e3, l3, k3⟩ := drawL m (m : Int) rfl k2 (by omega) (by omega) (by omega)
  obtain ⟨h, b4, e4, zh, lh, k4⟩ := signs_ok k3 (size := szN b k) (many := d2) (by omega) (by omega) (by omega) (by omega)
  obtain ⟨d3, b5, e5, l5, k5⟩ := drawL m (m : Int) rfl k4 (by omega) (by omega) (by omega)
  obtain ⟨p, b6, e6, zp, lp, k6⟩ := signs_ok k5 (size := szN b k) (many := 1 + d3) (by omega) (by omega) (by omega) (by omega)
  rw [Int.natCast_add] at e6
  have e6 : m__law_signs [.box, .int (szN b k : Nat), .int (1 + (d3 : Int))] b5 = _ := e6
  have w : Wr b k h p := ⟨by omega, by omega, lh, lp, by omega, by omega⟩
  have p3 : law_p3 ⟨[.no, .v .box, .v (.int (b : Int)), .v (.int (k : Int)), .v (.int (szN b k : Nat)), .v (.int (m : Int)), .no, .no, .no, .no, .no, .no, .no], b2⟩ = .ok .nx ⟨[.no, .v .box, .v (.int (b : Int)), .v (.int (k : Int)), .v (.int (szN b k : Nat)), .v (.int (m : Int)), .v (pairD (h, p)), .no, .no, .no, .no, .no, .no], b6⟩ := by
    have ef : pairD (h, p) = .tup [.tup (h.map D.int), .tup (p.map D.int)] := rfl
    rw [ef]
    generalize h.map D.int = H at *
    generalize p.map D.int = P at *
    generalize ((szN b k : Nat) : Int) = Z at *
    simp [law_p3, e3, e4, e5, e6]
  obtain ⟨d4, b7, e7, _, k7⟩ := drawL 3 3 rfl k6 (by omega) (by decide) (by decide)
  obtain ⟨u, q, b8, p4, wu, zu, zq, k8⟩ : ∃ (u q : List Int) (b8 : Bx), law_p4 ⟨[.no, .v .box, .v (.int (b : Int)), .v (.int (k : Int)), .v (.int (szN b k : Nat)), .v (.int (m : Int)), .v (pairD (h, p)), .no, .no, .no, .no, .no, .no], b6⟩ = .ok .nx ⟨[.no, .v .box, .v (.int (b : Int)), .v (.int (k : Int)), .v (.int (szN b k : Nat)), .v (.int (m : Int)), .v (pairD (u, q)), .no, .no, .no, .no, .no, .no], b8⟩ ∧ Wr b k u q ∧ u.length ≤ 200 ∧ q.length ≤ 200 ∧ BxOk 200 b8 := by
    by_cases hd : d4 = 0
    · have hdi : (d4 : Int) = 0 := by omega
      obtain ⟨j, b9, f1, f2, f3⟩ := drawL p.length (p.length : Int) rfl k7 (by omega) w.ne (by omega)
      obtain ⟨e, b10, g1, g2, g3⟩ := drawL 3 3 rfl f3 (by omega) (by decide) (by decide)
      have rl : (repl p (1 + e)).length ≤ 120 := by
        rw [repl_len]
        have : (1 + e) * p.length ≤ 3 * 40 := Nat.mul_le_mul (by omega) (by omega)
        omega
      have ha : (h ++ p.drop j).length ≤ 100 := by rw [List.length_append, List.length_drop]; omega
      refine ⟨h ++ p.drop j, repl p (1 + e), b10, ?_, ⟨w.hb, by rw [repl_len]; exact Nat.mul_pos (by omega) w.ne, lts_app lh (lts_drop lp j), ?_, by omega, by omega⟩, by omega, by omega, g3.mono (by omega)⟩
      · have hl : (h.map D.int).length = h.length := List.length_map ..
        have pl : (p.map D.int).length = p.length := List.length_map ..
        have c1 : cutL (p.map D.int) (some (j : Int)) none = (p.drop j).map D.int := by rw [cutL_from, List.map_drop]
        have z1 : h.length + ((p.drop j).map D.int).length ≤ sizeLine := by
          rw [List.length_map, List.length_drop, sizeLine_eq]; omega
        have mt : mulTD (.tup (p.map D.int)) (.int (1 + (e : Int))) = some (.v (.tup ((repl p (1 + e)).map D.int))) := by
          have hm2 : p.length * (1 + e) ≤ 40 * 3 := Nat.mul_le_mul (by omega) (by omega)
          rw [mulTD_tup, if_pos ⟨by omega, by omega, by simpa using List.length_pos_iff.mp w.ne, by
            rw [List.length_map, show (1 + (e : Int)).toNat = 1 + e by omega]; omega⟩, show (1 + (e : Int)).toNat = 1 + e by omega, repl_map]
        have ef : pairD (h, p) = .tup [.tup (h.map D.int), .tup (p.map D.int)] := rfl
        have eg : pairD (h ++ p.drop j, repl p (1 + e)) = .tup [.tup (h.map D.int ++ (p.drop j).map D.int), .tup ((repl p (1 + e)).map D.int)] := by unfold pairD; rw [List.map_append]
        rw [ef, eg]
        generalize (repl p (1 + e)).map D.int = R at *
        generalize (p.drop j).map D.int = P1 at *
        generalize h.map D.int = H at *
        generalize p.map D.int = P at *
        generalize ((szN b k : Nat) : Int) = Z at *
        simp [law_p4, e7, hd, hdi, hl, pl, f1, c1, z1, g1, mt]
      · intro a ha
        obtain ⟨i, hi⟩ := List.getElem?_of_mem ha
        have hil := (List.getElem?_eq_some_iff.mp hi).1
        rw [repl_len] at hil
        rw [repl_get _ _ _ hil] at hi
        exact lp a (List.mem_of_getElem? hi)
    · have hdi : ¬ (d4 : Int) = 0 := by omega
      refine ⟨h, p, b7, ?_, w, by omega, by omega, k7.mono (by omega)⟩
      generalize pairD (h, p) = F at *
      generalize ((szN b k : Nat) : Int) = Z at *
      simp [law_p4, e7, hd, hdi]
  -- the lists, the stream, what is done to the lists
  have uz := wu.z1
  have qz := wu.z2
  obtain ⟨a, qs, hq⟩ : ∃ a qs, q = a :: qs := by
    cases q with
    | nil => have := wu.ne; simp at this
    | cons a qs => exact ⟨a, qs, rfl⟩
  have wi := wu.init (.inr rfl) (.inr rfl)
  have nf := nlF b k (sht u q).1 (sht u q).2
  have sd : stD b k (sht u q) = .ins "Stream" (strF4 b k (sht u q).1 (sht u q).2) := rfl
  have sm := same_ok wu (by omega) rfl
  have lk := like_l2 (a := .lst (u.map D.int)) (b := .lst (q.map D.int)) (pl_intl (by omega)) (pl_intl (by omega))
  have n1 := nbxs_ints u
  have n2 := nbxs_ints q
  have ul : (u.map D.int).length = u.length := List.length_map ..
  have ql : (q.map D.int).length = q.length := List.length_map ..
  have g0 : (q.map D.int)[0]? = some (.int a) := by rw [hq]; rfl
  have app : appendF (u.map D.int) [.int 0] = some (.non, u.map D.int ++ [.int 0]) := by
    have : appendF (u.map D.int) [.int 0] = if (u.map D.int).length < sizeLine then some (D.non, u.map D.int ++ [.int 0]) else none := rfl
    rw [this, if_pos (by rw [ul, sizeLine_eq]; omega)]
  have ulz : (u.map D.int).length < sizeLine := by rw [ul, sizeLine_eq]; omega
  have zp : (0 : Int) < (szN b k : Nat) := by omega
  have ix0 : ixN q.length 0 = some 0 := ixN_nat wu.ne
  obtain ⟨fin, tl⟩ := law_tail wu hb10 hk hs16 hs2 zu zq k8 (by omega) .no (.v (.int (m : Int))) (.o (u.map D.int ++ [.int 0])) (.o ((q.map D.int).set 0 (.int ((a + 1) % ((szN b k : Nat) : Int)))))
  have ef : pairD (u, q) = .tup [.tup (u.map D.int), .tup (q.map D.int)] := rfl
  rw [ef] at p4 tl sm
  have p5 : ∀ bb : Bx, law_p5 ⟨[.no, .v .box, .v (.int (b : Int)), .v (.int (k : Int)), .v (.int (szN b k : Nat)), .v (.int (m : Int)), .v (.tup [.tup (u.map D.int), .tup (q.map D.int)]), .no, .no, .no, .no, .no, .no], bb⟩ = .ok .nx ⟨[.no, .v .box, .v (.int (b : Int)), .v (.int (k : Int)), .v (.int (szN b k : Nat)), .v (.int (m : Int)), .v (.tup [.tup (u.map D.int), .tup (q.map D.int)]), .o (u.map D.int), .o (q.map D.int), .no, .no, .no, .no], bb⟩ := fun bb => by
    generalize u.map D.int = U at *
    generalize q.map D.int = Q at *
    simp [law_p5, noX_ap]
  have p6 : ∀ bb : Bx, law_p6 ⟨[.no, .v .box, .v (.int (b : Int)), .v (.int (k : Int)), .v (.int (szN b k : Nat)), .v (.int (m : Int)), .v (.tup [.tup (u.map D.int), .tup (q.map D.int)]), .o (u.map D.int), .o (q.map D.int), .no, .no, .no, .no], bb⟩ = .ok .nx ⟨[.no, .v .box, .v (.int (b : Int)), .v (.int (k : Int)), .v (.int (szN b k : Nat)), .v (.int (m : Int)), .v (.tup [.tup (u.map D.int), .tup (q.map D.int)]), .o (u.map D.int), .o (q.map D.int), .v (stD b k (sht u q)), .no, .no, .no], bb⟩ := fun bb => by
    rw [sd]
    generalize strF4 b k (sht u q).1 (sht u q).2 = SF at *
    generalize u.map D.int = U at *
    generalize q.map D.int = Q at *
    simp [law_p6, n1, n2, wi, nf]
  have p7 : ∀ (T : DL.Slot) (bb : Bx), law_p7 ⟨[.no, .v .box, .v (.int (b : Int)), .v (.int (k : Int)), .v (.int (szN b k : Nat)), .v (.int (m : Int)), .v (.tup [.tup (u.map D.int), .tup (q.map D.int)]), .o (u.map D.int), .o (q.map D.int), T, .no, .no, .no], bb⟩ = .ok .nx ⟨[.no, .v .box, .v (.int (b : Int)), .v (.int (k : Int)), .v (.int (szN b k : Nat)), .v (.int (m : Int)), .v (.tup [.tup (u.map D.int), .tup (q.map D.int)]), .o (u.map D.int), .o (q.map D.int), T, .no, .no, .no], bb⟩ := fun T bb => by
    generalize u.map D.int = U at *
    generalize q.map D.int = Q at *
    simp [law_p7, noX_ap, lk]
  have p8 : ∀ (T : DL.Slot) (bb : Bx), law_p8 ⟨[.no, .v .box, .v (.int (b : Int)), .v (.int (k : Int)), .v (.int (szN b k : Nat)), .v (.int (m : Int)), .v (.tup [.tup (u.map D.int), .tup (q.map D.int)]), .o (u.map D.int), .o (q.map D.int), T, .no, .no, .no], bb⟩ = .ok .nx ⟨[.no, .v .box, .v (.int (b : Int)), .v (.int (k : Int)), .v (.int (szN b k : Nat)), .v (.int (m : Int)), .v (.tup [.tup (u.map D.int), .tup (q.map D.int)]), .o (u.map D.int ++ [.int 0]), .o (q.map D.int), T, .no, .no, .no], bb⟩ := fun T bb => by
    generalize u.map D.int = U at *
    generalize q.map D.int = Q at *
    simp [law_p8, ulz]
  have p9 : ∀ (T : DL.Slot) (bb : Bx), law_p9 ⟨[.no, .v .box, .v (.int (b : Int)), .v (.int (k : Int)), .v (.int (szN b k : Nat)), .v (.int (m : Int)), .v (.tup [.tup (u.map D.int), .tup (q.map D.int)]), .o (u.map D.int ++ [.int 0]), .o (q.map D.int), T, .no, .no, .no], bb⟩ = .ok .nx ⟨[.no, .v .box, .v (.int (b : Int)), .v (.int (k : Int)), .v (.int (szN b k : Nat)), .v (.int (m : Int)), .v (.tup [.tup (u.map D.int), .tup (q.map D.int)]), .o (u.map D.int ++ [.int 0]), .o ((q.map D.int).set 0 (.int ((a + 1) % ((szN b k : Nat) : Int)))), T, .no, .no, .no], bb⟩ := fun T bb => by
    generalize u.map D.int = U at *
    generalize q.map D.int = Q at *
    generalize ((szN b k : Nat) : Int) = Z at *
    simp [law_p9, g0, zp, ql, ix0]
  generalize stD b k (sht u q) = T at *
  generalize u.map D.int = U at *
  generalize q.map D.int = Q at *
  generalize ((szN b k : Nat) : Int) = Z at *
  generalize Q.set 0 (.int ((a + 1) % Z)) = Q' at *
  generalize U ++ [.int 0] = U' at *
  have p10 : law_p10 ⟨[.no, .v .box, .v (.int (b : Int)), .v (.int (k : Int)), .v (.int Z), .v (.int (m : Int)), .v (.tup [.tup U, .tup Q]), .o U', .o Q', .v T, .no, .no, .no], b8⟩ = .ok .nx ⟨[.no, .v .box, .v (.int (b : Int)), .v (.int (k : Int)), .v (.int Z), .v (.int (m : Int)), .v (.tup [.tup U, .tup Q]), .o U', .o Q', .v T, .no, .no, .no], b8⟩ := by
    simp [law_p10, sm]
  have fin2 : b_law ⟨.no :: .v .box :: List.replicate (13 - 2) .no, bx0 ns⟩ = .ok (.rt (.v (.bl true))) fin := by
    rw [law_eq]
    simp [law_p0, e1, noX_ap, szE, p2, p3]
    simp [p4, p5, p6, p7, p8, p9, p10, tl]
  show (match b_law ⟨.no :: .v .box :: List.replicate (13 - 2) .no, bx0 ns⟩ with | .ok (.rt (.v (.bl true))) _ => True | _ => False)
  rw [fin2]
  trivial
end K03


theorem PySem.Challenge.cw_bendless_k03_streams_in_shortest_writing_holds : PySem.Challenge.rw_bendless_k03_streams_in_shortest_writing.Holds := by
  exact head_of K03.law_true
