import PyProof.Rows.All
import Wide.All
import OpenK.AllK
import Wide.FinOn
import PyProof.GenRules
import PyProof.GenQ
import HandS.GenCall
import PyProof.ForAny
import HandS.GenList
import HandS.ExcOwn
import HandS.Comp
import HandS.Nested
import HandS.More
import HandS.OwnEq
import KE.KOpsOwn
import PyProof.InstNe
import HandS.ForMost
import HandS.Star
import HandS.IsInst
import HandS.Property
import HandS.ClsMeth
import HandS.Defaults
import HandS.Flow
import HandS.Deep
import HandS.Style
import HandS.DictTup
import HandS.TryOnly
import HandS.Text
import HandS.MakeKwOnly
import HandS.SetKeys
import PyProof.DictMoreH
import HandS.Wide
import HandS.Head0
import HandS.Head1
import HandS.Head2
import HandS.HeadHook4
import HandS.HeadNt
import HandS.HeadWalk
import PySem.Challenge.RW_carpets_k38_whole_rules_of_overlays
set_option Elab.async false
set_option linter.all false
set_option maxRecDepth 100000
section
set_option maxHeartbeats 4000000
/-! The text by places: what the head looks at. -/
namespace Wk
open PySem PySem.Spec PyProof.Rows L2
def top (i : Nat) : Stmt := PySem.Challenge.pw_carpets_k38_whole_rules_of_overlays.main.body.getD i (.Pass ⟨0, 0, 0, 0⟩)
abbrev sGcd : Stmt := top 17
abbrev sIsInt : Stmt := top 13
abbrev sIsPlace : Stmt := top 14
abbrev sChkPlace : Stmt := top 15
abbrev sChkNum : Stmt := top 16
abbrev sBez : Stmt := top 18
abbrev sDivs : Stmt := top 19
abbrev sPlus : Stmt := top 20
abbrev sMinus : Stmt := top 21
abbrev Mx := Int × Int × Int × Int
def mats : List (Str × Mx) := [("none", 1, 0, 0, 1), ("left", 0, -1, 1, 0), ("half", -1, 0, 0, -1), ("right", 0, 1, -1, 0), ("flip", 1, 0, 0, -1), ("mirror", -1, 0, 0, 1), ("swap", 0, 1, 1, 0), ("cross", 0, -1, -1, 0)]
def backK (k : Str) : Str := if k = "left" then "right" else if k = "right" then "left" else k
abbrev sTurned : Stmt := top 25
abbrev sMot (j : Nat) : Stmt := inClass (top 27) j
abbrev sForm : Stmt := top 29
abbrev sAre : Stmt := top 30
abbrev sCom : Stmt := top 31
abbrev sNet (j : Nat) : Stmt := inClass (top 32) j
def letS : Str := "abcdefghijklmnopqrstuvwxyz"
abbrev sIsCol : Stmt := top 38
abbrev sChkCol : Stmt := top 39
abbrev sIsRow : Stmt := top 40
abbrev sColAt : Stmt := top 43
abbrev sKept : Stmt := top 44
abbrev sKeptNet : Stmt := top 45
abbrev sLeast : Stmt := top 46
abbrev sCar (j : Nat) : Stmt := inClass (top 47) j
abbrev sWov (j : Nat) : Stmt := inClass (top 48) j
abbrev sChkRows : Stmt := top 41
abbrev sBlock : Stmt := top 42
abbrev sCommon : Stmt := top 50
abbrev sNetAll : Stmt := top 51
abbrev sWovBy : Stmt := top 52
abbrev sUnlike : Stmt := top 53
abbrev sOver : Stmt := top 54
abbrev sChkBlk : Stmt := top 61
abbrev sEnl : Stmt := top 62
abbrev sSmp : Stmt := top 63
abbrev sMsk : Stmt := top 56
abbrev sIsTbl : Stmt := top 58
abbrev sRec : Stmt := top 59
abbrev sLay : Stmt := top 55
abbrev sUnc : Stmt := top 57
abbrev sDraw : Stmt := top 66
abbrev sGreat : Stmt := top 67
abbrev sPlace : Stmt := top 68
abbrev sLow : Stmt := top 69
abbrev sSpots : Stmt := top 70
abbrev sSeenL : Stmt := top 71
abbrev sNetL : Stmt := top 72
abbrev sTurnedL : Stmt := top 73
abbrev sKindsL : Stmt := top 74
abbrev sCarried : Stmt := top 75
abbrev sDivisor : Stmt := top 76
abbrev sKeeps : Stmt := top 77
abbrev sMoveL : Stmt := top 78
abbrev sTied : Stmt := top 79
abbrev sLetters : Stmt := top 80
abbrev sSquare : Stmt := top 81
abbrev sCopied : Stmt := top 82
abbrev sWoven : Stmt := top 83
abbrev sTape : Stmt := top 65
abbrev sMade : Stmt := top 84
abbrev sLaw : Stmt := top 85
end Wk
end
section
set_option maxHeartbeats 4000000
/-! What the head tells. -/
namespace Wk
open PySem PySem.Spec PyProof.Rows L2 TL LamX
abbrev Fr := PySem.W.Frag
def aN (K : Fr) : Addr := He.ga K "Net"
def aM (K : Fr) : Addr := He.ga K "Motion"
def aC (K : Fr) : Addr := He.ga K "Carpet"
def aW (K : Fr) : Addr := He.ga K "Woven"
/-- a def of the module, a method, a def in a wrap -/
def gD (x : Str) (st : Stmt) : He5.DefA := ⟨fun K => He.ga K x, x, x, defArgs st, defBody st, defScope st, [], []⟩
def mD (C m q : Str) (st : Stmt) : He5.DefA := ⟨fun K => He.ma K (He.ga K C) m, m, q, defArgs st, defBody st, defScope st, [], []⟩
def wD (C : Str) (T : String) (m q : Str) (st : Stmt) : He5.DefA := ⟨fun K => He5.wf K (He.ga K C) T m, m, q, defArgs st, defBody st, defScope st, [], []⟩
/-- the default of a keyword, if it is an object -/
def kwdAt (x k : Str) (K : Fr) : Addr := match K.lookup (He.ga K x) with
  | some ⟨_, _, .func fd, _⟩ => (match fd.kwdefaults with
    | .ref D => (match PySem.W.nsIn K D k with
      | some (some (.ref a)) => a
      | _ => 0)
    | _ => 0)
  | _ => 0
/-- a tuple of these, at a -/
def tupAt (K : Fr) (a : Addr) (vs : List V) : Bool := match K.lookup a with
  | some ⟨.type c, _, .seq its _, _⟩ => decide (c = "tuple") && decide (its.size ≤ sizeLine) && He.relAll vs its.toList
  | _ => false
theorem tupAt_ok {K : Fr} {a : Addr} {vs : List V} (h : tupAt K a vs = true) (H : Hp) : SqT K H a vs := by
  unfold tupAt at h
  split at h
  · rename_i c d its n sl hl
    obtain ⟨h1, h2⟩ := He.ba h
    obtain ⟨h3, h4⟩ := He.ba h1
    exact .inr ⟨_, its, n, hl, congrArg Value.type (of_decide_eq_true h3), rfl, of_decide_eq_true h4, He.relAll_ok h2⟩
  · cases h
def matB (K : Fr) : Bool := mats.all fun q => match PySem.W.nsIn K (He.ga K "MATRICES") q.1 with
  | some (some (.ref t)) => tupAt K t [.int q.2.1, .int q.2.2.1, .int q.2.2.2.1, .int q.2.2.2.2]
  | _ => false
def backB (K : Fr) : Bool := mats.all fun q => match PySem.W.nsIn K (He.ga K "BACK") q.1 with
  | some none => decide (backK q.1 = q.1)
  | some (some (.str s _)) => decide (s = backK q.1)
  | _ => false
theorem mats_mem {k : Str} {m : Mx} (h : mats.lookup k = some m) : (k, m) ∈ mats := PySem.mem_of_lookup h
theorem matB_ok {K : Fr} (h : matB K = true) {k : Str} {p q r s : Int} (hk : mats.lookup k = some (p, q, r, s)) : ∃ t, PySem.W.nsIn K (He.ga K "MATRICES") k = some (some (.ref t)) ∧ ∀ H, SqT K H t [.int p, .int q, .int r, .int s] := by
  have h1 := List.all_eq_true.mp h _ (mats_mem hk)
  dsimp only at h1
  split at h1
  · rename_i t e
    exact ⟨t, e, fun H => tupAt_ok h1 H⟩
  · cases h1
theorem backB_ok {K : Fr} (h : backB K = true) {k : Str} {m : Mx} (hk : mats.lookup k = some m) : (PySem.W.nsIn K (He.ga K "BACK") k = some none ∧ backK k = k) ∨ ∃ t, PySem.W.nsIn K (He.ga K "BACK") k = some (some (.str (backK k) t)) := by
  have h1 := List.all_eq_true.mp h _ (mats_mem hk)
  dsimp only at h1
  split at h1
  · rename_i e
    exact .inl ⟨e, of_decide_eq_true h1⟩
  · rename_i s t e
    have e2 : s = backK k := of_decide_eq_true h1
    subst e2
    exact .inr ⟨t, e⟩
  · cases h1
/-- a class whose instances tell their class -/
def klB (K : Fr) (C : Addr) : Bool := He.eqO (PySem.W.findIn K (.ref C) "__class__") (some (some (.builtin "object.__class__"))) && decide (PySem.W.mroIn K C (.type "object") = some true)
def objB (K : Fr) : Bool := He.eqO (PySem.W.specialIn K (.builtin "object.__class__") "__get__") (some (some (.builtin "getset_descriptor.__get__"))) && decide (PySem.W.takesIn K (.builtin "object.__class__") = some true)
/-- the property m, found at C, its record at p -/
def prpB (K : Fr) (C p : Addr) (m : Str) : Bool := He.eqO (PySem.W.findIn K (.ref C) m) (some (some (.ref p))) && (He.eqO (PySem.W.specialIn K (.ref p) "__get__") (some (some (.builtin "property.__get__"))) && decide (PySem.W.takesIn K (.ref p) = some true))
def recB (K : Fr) (C : Addr) (m : Str) : Bool := match PySem.W.recIn K (He.ma K C m) "property" with
  | some (.ref _ :: _) => true
  | _ => false
theorem recB_ok {K : Fr} {C : Addr} {m : Str} (h : recB K C m = true) : ∃ rest, PySem.W.recIn K (He.ma K C m) "property" = some (.ref (He5.wf K C "property" m) :: rest) := by
  unfold recB at h
  unfold He5.wf
  split at h
  · rename_i f r e
    exact ⟨r, by rw [e]⟩
  · cases h
theorem prpB_ok {K : Fr} {C D : Addr} {m : Str} (h : prpB K D (He.ma K C m) m = true) (r : recB K C m = true) : PropOf K D m (He.ma K C m) (He5.wf K C "property" m) := by
  obtain ⟨h1, h2⟩ := He.ba h
  obtain ⟨h3, h4⟩ := He.ba h2
  exact ⟨He.eqO_ok h1, He.eqO_ok h3, of_decide_eq_true h4, recB_ok r⟩
def rdB (K : Fr) (C : Addr) : Bool := PySem.W.readsIn K C (.type "type") && He.eqO (PySem.W.specialIn K (.ref C) "__getattribute__") (some (some (.builtin "type.__getattribute__")))
theorem rdB_ok {K : Fr} {C : Addr} (h : rdB K C = true) : ClX.CRead K C (.type "type") := by
  obtain ⟨h1, h2⟩ := He.ba h
  exact ⟨h1, He.eqO_ok h2⟩
def tfs : List He.Defn := [("overlay", none), ("layered", none), ("masked", none), ("uncovered", none), ("enlarged", none), ("sampled", none)]
/-- the tables of the defs that make lambdas, with the lambdas' names -/
def tabsK (K : Fr) : List (Addr × Str) := [((He.cT K ("overlay", none)).2, "overlay.<locals>.<lambda>"), ((He.cT K ("layered", none)).2, "layered.<locals>.<lambda>"), ((He.cT K ("masked", none)).2, "masked.<locals>.<lambda>"),
  ((He.cT K ("uncovered", none)).2, "uncovered.<locals>.<lambda>"), ((He.cT K ("enlarged", none)).2, "enlarged.<locals>.<lambda>"), ((He.cT K ("sampled", none)).2, "sampled.<locals>.<lambda>")]
def disB (K : Fr) : Bool := (tabsK K).all fun p => (tabsK K).all fun q => !(p.1 == q.1) || decide (p.2 = q.2)
theorem disB_ok {K : Fr} (h : disB K = true) {P : Addr} {q : Str} (hq : (P, q) ∈ tabsK K) : ∀ p ∈ tabsK K, p.1 = P → p.2 = q := fun p hp e => by
  have h1 := List.all_eq_true.mp (List.all_eq_true.mp h p hp) _ hq
  rcases Bool.or_eq_true_iff.mp h1 with h2 | h2
  · have : (p.1 == P) = true := by rw [e]; exact beq_self_eq_true P
    dsimp only at h2
    rw [this] at h2
    cases h2
  · exact of_decide_eq_true h2
def sclB (K : Fr) (C D : Addr) : Bool := decide (C ≠ D) && (PySem.W.selfFirst K C && (He.eqO (PySem.W.findIn K (.ref C) "__rmul__") (some none) && decide (PySem.W.subIn K (.ref D) (.ref C) = some false)))
/-- all that is asked besides -/
def exB (K : Fr) : Bool := matB K && (backB K && (objB K && (klB K (aN K) && (klB K (aC K) && (klB K (aW K) &&
  (prpB K (aN K) (He.ma K (aN K) "numbers") "numbers" && (recB K (aN K) "numbers" && (prpB K (aN K) (He.ma K (aN K) "size") "size" && (recB K (aN K) "size" && (prpB K (aM K) (He.ma K (aM K) "kind") "kind" && (recB K (aM K) "kind" &&
  (prpB K (aC K) (He.ma K (aC K) "net") "net" && (prpB K (aW K) (He.ma K (aC K) "net") "net" && (recB K (aC K) "net" && (prpB K (aC K) (He.ma K (aC K) "text") "text" && (prpB K (aW K) (He.ma K (aC K) "text") "text" && (recB K (aC K) "text" &&
  (prpB K (aC K) (He.ma K (aC K) "colours") "colours" && (prpB K (aW K) (He.ma K (aC K) "colours") "colours" && (recB K (aC K) "colours" && (rdB K (aN K) && (rdB K (aC K) &&
  (He5.wrapB K (aN K) "staticmethod" "staticmethod.__get__" "of" && (He5.wrapB K (aC K) "staticmethod" "staticmethod.__get__" "on" && (He5.wrapB K (aN K) "classmethod" "classmethod.__get__" "whole" && (PySem.W.fnIn K (He5.wf K (aN K) "classmethod" "whole") &&
  (disB K && (sclB K (aN K) (aM K) && (sclB K (aC K) (aM K) && (sclB K (aW K) (aM K) && (PySem.W.selfFirst K (aM K) && (He.eqO (PySem.W.findIn K (.ref (aM K)) "__rmul__") (some none) &&
  (He.eqO (PySem.W.findIn K (.ref (aW K)) "seen") (some (some (.ref (He.ma K (aC K) "seen")))) && (He.eqO (PySem.W.findIn K (.ref (aW K)) "__eq__") (some (some (.ref (He.ma K (aC K) "__eq__")))) && (He.eqO (PySem.W.findIn K (.ref (aW K)) "__mul__") (some (some (.ref (He.ma K (aC K) "__mul__")))) &&
  (He.eqO (PySem.W.findIn K (.ref (aW K)) "__ne__") (some (some (.builtin "object.__ne__"))) && (decide (PySem.W.subIn K (.ref (aW K)) (.type "object") = some true) && decide (PySem.W.kitOne K (.ref (aW K)) (.ref (aC K)) = some true))))))))))))))))))))))))))))))))))))))
/-! ### the Hook -/
structure Says (fa : List He.Fa) (fn : List He5.DefA) (w : World) (h : Heap) (K : Fr) : Prop where
  defs : fn.map (fun d => He5.fnA K (d.at_ K)) = fn.map He5.DefA.val
  tabs : [He.dicW K (He.ga K "MATRICES"), He.dicW K (He.ga K "BACK")] = [some (He.keysIn w.params (mats.map (·.1))), some (He.keysIn w.params ["left", "right"])]
  facts : (fa.all fun f => f.ok K) = true
  oks : (fn.all fun d => d.ok K) = true
  more : exB K = true
  hd : ∀ p ∈ tfs, PySem.W.codeHdIn K (He.cT K p).1 (He.cT K p).2 = true
  out : ∀ p ∈ tfs, K.lookup (He.cT K p).2 = none
  empty : ∀ p ∈ tfs, h.get? (He.cT K p).2 = some { cls := .none, data := .fields #[] }
/-- what an object leads on to: code objects lead nowhere -/
def nxt (o : Obj) : List Addr := match o.data with
  | .seq its _ => its.toList.flatMap He.refV
  | .dict es _ => es.toList.flatMap fun e => He.refV e.val
  | .func fd => He.refV fd.code ++ (He.refV fd.defaults ++ He.refV fd.kwdefaults)
  | .cls cd => [cd.ns]
  | .fields vs => (match Nat.blt vs.size 12 with
    | true => vs.toList.flatMap He.refV
    | false => [])
  | _ => []
def lvl (g : Addr → Option Obj) (as : List Addr) : List Addr := as.flatMap fun a => match g a with
  | some o => nxt o
  | none => []
/-- level by level from the module's names -/
def lvls (g : Addr → Option Obj) : Nat → List Addr → List Addr
  | 0, as => as
  | n + 1, as => as ++ lvls g n (lvl g as)
def asK (g : Addr → Option Obj) : Fr := He.frT g (PySem.cStatics :: lvls g 5 [mainGlobals])
abbrev AlK : Type := List He.FnW × List (Option (List (Option (Str × Int)))) × Bool
def obsK (fa : List He.Fa) (fn : List He5.DefA) (g : Addr → Option Obj) (K : Fr) : AlK :=
  (fn.map fun d => He5.fnA K (d.at_ K), [He.dicW K (He.ga K "MATRICES"), He.dicW K (He.ga K "BACK")], (fa.all fun f => f.ok K) && ((fn.all fun d => d.ok K) && (exB K && He.tabsB g tfs K)))
def valK (fn : List He5.DefA) (w : World) : AlK := (fn.map He5.DefA.val, [some (He.keysIn w.params (mats.map (·.1))), some (He.keysIn w.params ["left", "right"])], true)
theorem says_of {fa : List He.Fa} {fn : List He5.DefA} {w : World} {h : Heap} (e : obsK fa fn h.get? (asK h.get?) = valK fn w) : Says fa fn w h (asK h.get?) := by
  obtain ⟨e1, e2⟩ := Prod.mk.inj e
  obtain ⟨e2, e3⟩ := Prod.mk.inj e2
  obtain ⟨b1, b2⟩ := He.ba e3
  obtain ⟨b2, b3⟩ := He.ba b2
  obtain ⟨b3, b4⟩ := He.ba b3
  have key : ∀ p ∈ tfs, PySem.W.codeHdIn (asK h.get?) (He.cT (asK h.get?) p).1 (He.cT (asK h.get?) p).2 = true ∧ ∃ o, h.get? (He.cT (asK h.get?) p).2 = some o ∧ He.emptyTab o = true := fun p hp => by
    obtain ⟨k1, k2⟩ := He.ba (List.all_eq_true.mp b4 p hp)
    refine ⟨k1, ?_⟩
    split at k2
    · rename_i o q
      exact ⟨o, q, k2⟩
    · cases k2
  refine ⟨e1, e2, b1, b2, b3, fun p hp => (key p hp).1, fun p hp => ?_, fun p hp => ?_⟩
  · obtain ⟨_, o, q, z⟩ := key p hp
    exact He.frT_none q z
  · obtain ⟨_, o, q, z⟩ := key p hp
    rw [q, He.emptyTab_eq z]
def hookK (fa : List He.Fa) (fn : List He5.DefA) : PySem.W.Hook where
  α := AlK
  obs := fun s => obsK fa fn s.heap.get? (asK s.heap.get?)
  val := fun w => valK fn w
  says := fun w h => ∃ K : Fr, K.In h ∧ Says fa fn w h K
  of := fun _ _ e => ⟨_, He.frT_in, says_of e⟩
  keeps := fun _ _ _ ⟨K, hK, c⟩ k => ⟨K, PySem.W.Frag.In.keeps hK k, { c with empty := fun p hp => k _ _ (c.empty p hp) }⟩
def obK (fa : List He.Fa) (fn : List He5.DefA) (s : PySem.W.SharedT) : AlK := obsK fa fn (HandSHeadRun.getT s) (asK (HandSHeadRun.getT s))
theorem obK_eq {fa : List He.Fa} {fn : List He5.DefA} (s : PySem.W.SharedT) : obK fa fn s = (hookK fa fn).obs s.abs := by
  have e : HandSHeadRun.getT s = s.abs.heap.get? := funext fun a => HandSHeadRun.getT_eq s a
  unfold obK
  rw [e]
  rfl
section
variable {fa : List He.Fa} {fn : List He5.DefA} {w : World} {h : Heap} {K : Fr}
theorem Says.fact (c : Says fa fn w h K) (i : Nat) {f : He.Fa} (e : fa[i]? = some f := by rfl) : f.ok K = true := List.all_eq_true.mp c.facts f (List.mem_of_getElem? e)
theorem Says.def_ (c : Says fa fn w h K) (i : Nat) {d : He5.DefA} (e : fn[i]? = some d := by rfl) : ∃ fd, FunD K d.name d.qual d.params d.body d.scope (d.dvs K) (d.kws K) (d.at_ K) fd := by
  have e2 : (fn.map fun d => He5.fnA K (d.at_ K))[i]? = (fn.map He5.DefA.val)[i]? := by rw [c.defs]
  rw [List.getElem?_map, List.getElem?_map, e] at e2
  exact He5.DefA.funD (Option.some.inj e2) (List.all_eq_true.mp c.oks d (List.mem_of_getElem? e))
end
end Wk
end
section
set_option maxHeartbeats 4000000
/-! The facts and the defs of this program. -/
namespace Wk
open PySem PySem.Spec PyProof.Rows L2 TL LamX
def lawFa0 : List He.Fa := [.glo "greatest_divisor", .glo "is_integer", .glo "is_place", .glo "check_place", .glo "check_number", .glo "plus", .glo "bezout", .glo "divisors", .glo "turned", .glo "form_of", .glo "are_numbers", .glo "common_numbers", .glo "is_colour", .glo "check_colour", .glo "is_row", .glo "colour_at", .glo "is_kept", .glo "kept_net", .glo "least_cell", .glo "check_rows", .glo "checked_block", .glo "common_net", .glo "net_of_all", .glo "woven_by", .glo "first_unlike", .glo "overlay", .glo "layered", .glo "masked", .glo "uncovered", .glo "is_table"]
def lawFa1 : List He.Fa := [.glo "recoloured", .glo "check_block", .glo "enlarged", .glo "_law_tape", .glo "_law_draw", .glo "_law_great", .glo "_law_place", .glo "_law_low", .glo "_law_spots", .glo "_law_seen", .glo "_law_net", .glo "_law_turned", .glo "_law_kinds", .glo "_law_carried", .glo "_law_divisor", .glo "_law_keeps", .glo "_law_move", .glo "_law_tied", .glo "_law_letters", .glo "_law_square", .glo "_law_copied", .glo "_law_woven", .glo "_law_made", .glo "law", .glo "sampled", .glo "Net", .glo "Motion", .glo "Carpet", .glo "Woven", .glo "MATRICES"]
def lawFa2 : List He.Fa := [.glo "BACK", .free "abs", .free "isinstance", .free "int", .free "bool", .free "tuple", .free "list", .free "dict", .free "str", .free "len", .free "all", .free "range", .free "enumerate", .str "LETTERS" letS, .int "MOST_PLACES" 2000, .int "MOST_ROWS" 100, .int "MOST_LETTERS" 1000, .cls "Net", .mkr "Net", .cls "Motion", .mkr "Motion", .cls "Carpet", .mkr "Carpet", .cls "Woven", .mkr "Woven", .noat "Net" "own_numbers", .noat "Motion" "own_kind", .noat "Motion" "own_shift", .noat "Carpet" "own_net", .noat "Carpet" "own_text"]
def lawFa3 : List He.Fa := [.noat "Woven" "own_net", .noat "Woven" "own_text", .meth "Net" "spanning", .meth "Net" "place_in_cell", .meth "Net" "__and__", .meth "Net" "__mul__", .meth "Net" "__eq__", .meth "Net" "spots", .meth "Net" "cell", .meth "Motion" "image", .meth "Motion" "__invert__", .meth "Motion" "__mul__", .meth "Carpet" "seen", .meth "Carpet" "__eq__", .meth "Carpet" "__mul__", .keep "Carpet", .keep "Net"]
def lawFa : List He.Fa := lawFa0 ++ lawFa1 ++ lawFa2 ++ lawFa3
def lawFn0 : List He5.DefA := [gD "greatest_divisor" sGcd, gD "is_integer" sIsInt, gD "is_place" sIsPlace, gD "check_place" sChkPlace, gD "check_number" sChkNum, gD "plus" sPlus, gD "bezout" sBez, gD "divisors" sDivs, gD "turned" sTurned, gD "form_of" sForm, gD "are_numbers" sAre, gD "common_numbers" sCom, gD "is_colour" sIsCol, gD "check_colour" sChkCol, gD "is_row" sIsRow, gD "colour_at" sColAt, gD "is_kept" sKept, gD "kept_net" sKeptNet, gD "least_cell" sLeast, gD "check_rows" sChkRows, gD "checked_block" sBlock, gD "common_net" sCommon, gD "net_of_all" sNetAll, gD "woven_by" sWovBy, gD "first_unlike" sUnlike, gD "overlay" sOver, gD "layered" sLay, gD "masked" sMsk, gD "uncovered" sUnc, gD "is_table" sIsTbl]
def lawFn1 : List He5.DefA := [gD "recoloured" sRec, gD "check_block" sChkBlk, gD "enlarged" sEnl, gD "_law_tape" sTape, gD "_law_draw" sDraw, gD "_law_great" sGreat, gD "_law_place" sPlace, gD "_law_low" sLow, gD "_law_spots" sSpots, gD "_law_seen" sSeenL, gD "_law_net" sNetL, gD "_law_turned" sTurnedL, gD "_law_kinds" sKindsL, gD "_law_carried" sCarried, gD "_law_divisor" sDivisor, gD "_law_keeps" sKeeps, gD "_law_move" sMoveL, gD "_law_tied" sTied, gD "_law_letters" sLetters, gD "_law_square" sSquare, gD "_law_copied" sCopied, gD "_law_woven" sWoven, gD "_law_made" sMade, gD "law" sLaw, mD "Net" "__init__" "Net.__init__" (sNet 0), mD "Net" "spanning" "Net.spanning" (sNet 5), mD "Net" "place_in_cell" "Net.place_in_cell" (sNet 6), mD "Net" "__and__" "Net.__and__" (sNet 8), mD "Net" "__mul__" "Net.__mul__" (sNet 10), mD "Net" "__eq__" "Net.__eq__" (sNet 11)]
def lawFn2 : List He5.DefA := [mD "Net" "spots" "Net.spots" (sNet 15), mD "Net" "cell" "Net.cell" (sNet 16), mD "Motion" "image" "Motion.image" (sMot 6), mD "Motion" "__invert__" "Motion.__invert__" (sMot 9), mD "Carpet" "seen" "Carpet.seen" (sCar 7), mD "Carpet" "__eq__" "Carpet.__eq__" (sCar 11), mD "Carpet" "__mul__" "Carpet.__mul__" (sCar 15), mD "Woven" "__init__" "Woven.__init__" (sWov 0), wD "Net" "property" "numbers" "Net.numbers" (sNet 3), wD "Net" "property" "size" "Net.size" (sNet 4), wD "Motion" "property" "kind" "Motion.kind" (sMot 3), wD "Carpet" "property" "net" "Carpet.net" (sCar 3), wD "Carpet" "property" "text" "Carpet.text" (sCar 4), wD "Carpet" "property" "colours" "Carpet.colours" (sCar 6), wD "Net" "staticmethod" "of" "Net.of" (sNet 1), wD "Net" "classmethod" "whole" "Net.whole" (sNet 2), wD "Carpet" "staticmethod" "on" "Carpet.on" (sCar 1), { mD "Motion" "__init__" "Motion.__init__" (sMot 1) with dfl := [.adr (He.dflAt ("Motion", some "__init__") 0)] }, { mD "Carpet" "__init__" "Carpet.__init__" (sCar 0) with kwd := [("shift", .int 0)] }, { gD "sampled" sSmp with kwd := [("start", .adr (kwdAt "sampled" "start"))] }]
def lawFn : List He5.DefA := lawFn0 ++ lawFn1 ++ lawFn2
end Wk
end
section
set_option maxHeartbeats 0
namespace Wk
open PySem PySem.W PySem.Calls PyProof.Rows
abbrev RR : OpenRow := OpenLaw.row PySem.Challenge.rw_carpets_k38_whole_rules_of_overlays
abbrev qv : Program := view RR.prog [85]
def nms0 : List PySem.Str := ["_wall", "CarpetError", "InvalidNet", "InvalidPlace", "InvalidMotion", "InvalidRows", "InvalidColour", "InvalidTable", "InvalidNumber", "InvalidText", "LimitExceeded", "is_integer", "is_place", "check_place", "check_number", "greatest_divisor", "bezout", "divisors", "plus", "minus", "MATRICES", "BACK", "turned", "joined_kind", "Motion", "form_of", "are_numbers", "common_numbers", "Net", "LETTERS"]
def nms1 : List PySem.Str := ["MOST_ROWS", "MOST_LETTERS", "MOST_PLACES", "is_colour", "check_colour", "is_row", "check_rows", "checked_block", "colour_at", "is_kept", "kept_net", "least_cell", "Carpet", "Woven", "common_net", "net_of_all", "woven_by", "first_unlike", "overlay", "layered", "masked", "uncovered", "is_table", "recoloured", "check_block", "enlarged", "sampled", "_law_tape", "_law_draw", "_law_great"]
def nms2 : List PySem.Str := ["_law_place", "_law_low", "_law_spots", "_law_seen", "_law_net", "_law_turned", "_law_kinds", "_law_carried", "_law_divisor", "_law_keeps", "_law_move", "_law_tied", "_law_letters", "_law_square", "_law_copied", "_law_woven", "_law_made"]
def nms : List PySem.Str := nms0 ++ nms1 ++ nms2
abbrev hk : PySem.W.Hook := hookK lawFa lawFn
def ob (s : PySem.W.SharedT) : AlK := obK lawFa lawFn s
theorem run_no (w : World) : HandSHeadRun.RunEq RR qv hk ob 9000 nms (w.withFollow "special-get-raises" false) := by
  intro os
  kernel_rfl
theorem run_yes (w : World) : HandSHeadRun.RunEq RR qv hk ob 9000 nms (w.withFollow "special-get-raises" true) := by
  intro os
  kernel_rfl
theorem runs (w : World) : HandSHeadRun.RunEq RR qv hk ob 9000 nms w := PySem.W.byRow2 "special-get-raises" run_no run_yes w
end Wk
end
section
set_option maxHeartbeats 2000000
/-! A run that comes through while all sleeping generators are stuck never touches them. -/
namespace Gf
open PySem

theorem stuck_runs {M : Model} {Γ : Ctx} {p : Pos} {what : String} {t : Sem PySem.Fin} {fs : List Frame} {s s' : Shared} {e : End} (ht : t = .unsupported what) (h : Runs M Γ p t fs s e s') : False := by
  induction h <;> first
    | (cases ht; done)
    | (rename_i ih1 ih2; exact ih1 ht)
    | (rename_i ih1; exact ih1 ht)

/-- a sleeping generator that can't be woken, seen alike -/
def poison : GenState → GenState
  | .suspended _ l c p fs cl => .suspended (fun _ => .unsupported "") l c p fs cl
  | y => y
def asleep : GenState → Bool
  | .suspended .. => true
  | _ => false
theorem poison_seen (x : GenState) : (poison x).seen = x.seen := by cases x <;> rfl
theorem poison_bare (x : GenState) : (poison x).bare = x.bare := by cases x <;> rfl
def isRet : Frame → Bool
  | .ret .. => true
  | .gen .. => false
def noGen (fs : List Frame) : Prop := fs.all isRet = true
theorem noGen.nil : noGen [] := rfl
theorem noGen.app {a b : List Frame} (h1 : noGen a) (h2 : noGen b) : noGen (a ++ b) := by
  unfold noGen at *
  rw [List.all_append, h1, h2]; rfl
theorem noGen.tail {F : Frame} {b : List Frame} (h : noGen (F :: b)) : noGen b := by
  unfold noGen at *
  rw [List.all_cons, Bool.and_eq_true] at h
  exact h.2
theorem noGen.head {F : Frame} {b : List Frame} (h : noGen (F :: b)) : noGen [F] := by
  unfold noGen at *
  rw [List.all_cons, Bool.and_eq_true] at h
  rw [List.all_cons, h.1]; rfl
theorem noGen.split : ∀ {fs : List Frame}, noGen fs → splitAtGen fs = none
  | [], _ => rfl
  | .ret k hd g l c p kp :: r, h => by
    show (splitAtGen r).map _ = none
    rw [noGen.split h.tail]; rfl
  | .gen .. :: r, h => by
    have := h.head
    cases this
/-- what a state of a generator that isn't one of the held ones may be -/
def fine (y : GenState) : Prop := ∀ k l c p fs cl, y = .suspended k l c p fs cl → noGen fs
/-- s stands for r: the generators told by B are stuck in s -/
structure Rel (B : Nat → Option GenState) (s r : Shared) : Prop where
  rest : r = { s with gens := r.gens }
  size : r.gens.size = s.gens.size
  held : ∀ i X, B i = some X → asleep X = true ∧ r.gens[i]? = some X ∧ s.gens[i]? = some (poison X)
  free : ∀ i, B i = none → s.gens[i]? = r.gens[i]? ∧ ∀ y, r.gens[i]? = some y → fine y
section
variable {B : Nat → Option GenState} {s r : Shared}
theorem Rel.heap (h : Rel B s r) : r.heap = s.heap := by rw [h.rest]
theorem Rel.toks (h : Rel B s r) : r.toks = s.toks := by rw [h.rest]
theorem Rel.drawn (h : Rel B s r) : r.drawn = s.drawn := by rw [h.rest]
theorem Rel.os (h : Rel B s r) : r.os = s.os := by rw [h.rest]
/-- all but the generators changed alike -/
theorem Rel.with_ (h : Rel B s r) (hh : Heap) (d : Drawn) (t : Nat) (o : OsState) : Rel B { s with heap := hh, drawn := d, toks := t, os := o } { r with heap := hh, drawn := d, toks := t, os := o } :=
  ⟨rfl, h.size, h.held, h.free⟩
theorem Rel.push (h : Rel B s r) {y : GenState} (f : fine y) : Rel B { s with gens := s.gens.push y } { r with gens := r.gens.push y } := by
  have bs : ∀ i X, B i = some X → i < s.gens.size := fun i X e => by
    have := (h.held i X e).2.2
    rcases Nat.lt_or_ge i s.gens.size with z | z
    · exact z
    · rw [Array.getElem?_eq_none z] at this; cases this
  refine ⟨?_, by show (r.gens.push y).size = (s.gens.push y).size; rw [Array.size_push, Array.size_push, h.size], fun i X e => ?_, fun i e => ?_⟩
  · have e := h.rest
    show ({ r with gens := r.gens.push y } : Shared) = { s with gens := r.gens.push y }
    rw [e]
  · have lt := bs i X e
    obtain ⟨h1, h2, h3⟩ := h.held i X e
    refine ⟨h1, ?_, ?_⟩
    · show (r.gens.push y)[i]? = some X
      rw [Array.getElem?_push, if_neg (by rw [h.size]; exact Nat.ne_of_lt lt)]; exact h2
    · show (s.gens.push y)[i]? = some (poison X)
      rw [Array.getElem?_push, if_neg (Nat.ne_of_lt lt)]; exact h3
  · obtain ⟨h1, h2⟩ := h.free i e
    refine ⟨?_, fun z hz => ?_⟩
    · show (s.gens.push y)[i]? = (r.gens.push y)[i]?
      rw [Array.getElem?_push, Array.getElem?_push, h.size, h1]
    · have hz : (r.gens.push y)[i]? = some z := hz
      rw [Array.getElem?_push] at hz
      split at hz
      · cases hz; exact f
      · exact h2 z hz
theorem Rel.set (h : Rel B s r) {k : Nat} {y : GenState} (hk : B k = none) (f : fine y) : Rel B (s.setGen k y) (r.setGen k y) := by
  have ne : ∀ i X, B i = some X → k ≠ i := fun i X e z => by rw [z, e] at hk; cases hk
  refine ⟨?_, by show (r.gens.setIfInBounds k y).size = (s.gens.setIfInBounds k y).size; rw [Array.size_setIfInBounds, Array.size_setIfInBounds, h.size], fun i X e => ?_, fun i e => ?_⟩
  · have e := h.rest
    show ({ r with gens := r.gens.setIfInBounds k y } : Shared) = { s with gens := r.gens.setIfInBounds k y }
    rw [e]
  · obtain ⟨h1, h2, h3⟩ := h.held i X e
    refine ⟨h1, ?_, ?_⟩
    · show (r.gens.setIfInBounds k y)[i]? = some X
      rw [Array.getElem?_setIfInBounds_ne (ne i X e)]; exact h2
    · show (s.gens.setIfInBounds k y)[i]? = some (poison X)
      rw [Array.getElem?_setIfInBounds_ne (ne i X e)]; exact h3
  · obtain ⟨h1, h2⟩ := h.free i e
    by_cases z : k = i
    · subst z
      refine ⟨?_, fun y' hy => ?_⟩
      · show (s.gens.setIfInBounds k y)[k]? = (r.gens.setIfInBounds k y)[k]?
        rw [Array.getElem?_setIfInBounds_self, Array.getElem?_setIfInBounds_self, h.size]
      · have hy : (r.gens.setIfInBounds k y)[k]? = some y' := hy
        rw [Array.getElem?_setIfInBounds_self] at hy
        split at hy
        · cases hy; exact f
        · cases hy
    · refine ⟨?_, fun y' hy => ?_⟩
      · show (s.gens.setIfInBounds k y)[i]? = (r.gens.setIfInBounds k y)[i]?
        rw [Array.getElem?_setIfInBounds_ne z, Array.getElem?_setIfInBounds_ne z, h1]
      · have hy : (r.gens.setIfInBounds k y)[i]? = some y' := hy
        rw [Array.getElem?_setIfInBounds_ne z] at hy
        exact h2 y' hy
/-- a generator as s has it -/
theorem Rel.at_ (h : Rel B s r) {k : Nat} {st : GenState} (e : s.gens[k]? = some st) : (B k = none ∧ r.gens[k]? = some st ∧ fine st) ∨ (∃ X, B k = some X ∧ asleep X = true ∧ r.gens[k]? = some X ∧ st = poison X) := by
  cases q : B k with
  | none =>
    obtain ⟨h1, h2⟩ := h.free k q
    rw [h1] at e
    exact .inl ⟨rfl, e, h2 _ e⟩
  | some X =>
    obtain ⟨h1, h2, h3⟩ := h.held k X q
    rw [h3] at e
    exact .inr ⟨X, rfl, h1, h2, (Option.some.inj e).symm⟩
end
/-- the frames that an end leaves -/
def endOk : End → Prop
  | .ret _ => True
  | .susp _ _ _ _ _ _ fs => noGen fs
theorem endOk.fine {e : End} (h : endOk e) : fine e.genState := by
  cases e with
  | ret _ => exact fun _ _ _ _ _ _ z => by cases z
  | susp v g l k c p fs => exact fun _ _ _ _ _ _ z => by cases z; exact h

theorem runs_rel {M : Model} {B : Nat → Option GenState} {Γ : Ctx} {p : Pos} {t : Sem PySem.Fin} {fs : List Frame} {s s' : Shared} {e : End} (h : Runs M Γ p t fs s e s') :
    ∀ r, Rel B s r → noGen fs → ∃ r', Rel B s' r' ∧ endOk e ∧ Runs M Γ p t fs r e r' := by
  induction h with
  | done => exact fun r R _ => ⟨r, R, trivial, .done⟩
  | raise => exact fun r R _ => ⟨r, R, trivial, .raise⟩
  | again q _ ih => exact fun r R n => let ⟨r', a, b, c⟩ := ih r R n; ⟨r', a, b, .again q c⟩
  | rule _ ih => exact fun r R n => let ⟨r', a, b, c⟩ := ih r R n; ⟨r', a, b, .rule c⟩
  | «at» _ ih => exact fun r R n => let ⟨r', a, b, c⟩ := ih r R n; ⟨r', a, b, .at c⟩
  | load q _ ih => exact fun r R n => let ⟨r', a, b, c⟩ := ih r R n; ⟨r', a, b, .load (by rw [R.heap]; exact q) c⟩
  | update q _ ih =>
      intro r R n
      obtain ⟨r', a, b, c⟩ := ih _ (R.with_ _ _ _ _) n
      refine ⟨r', a, b, .update (by rw [R.heap]; exact q) ?_⟩
      rw [R.heap]
      simpa only [R.drawn.symm, R.toks.symm, R.os.symm] using c
  | loadIfAlive _ ih => exact fun r R n => let ⟨r', a, b, c⟩ := ih r R n; ⟨r', a, b, .loadIfAlive (by rw [R.heap]; exact c)⟩
  | point _ ih => exact fun r R n => let ⟨r', a, b, c⟩ := ih r R n; ⟨r', a, b, .point c⟩
  | alloc _ ih =>
      intro r R n
      obtain ⟨r', a, b, c⟩ := ih _ (R.with_ _ _ _ _) n
      refine ⟨r', a, b, .alloc ?_⟩
      rw [R.heap]
      simpa only [R.drawn.symm, R.toks.symm, R.os.symm] using c
  | fresh _ ih =>
      intro r R n
      obtain ⟨r', a, b, c⟩ := ih _ (R.with_ _ _ _ _) n
      refine ⟨r', a, b, .fresh ?_⟩
      rw [R.toks]
      simpa only [R.drawn.symm, R.heap.symm, R.os.symm] using c
  | ask _ ih => exact fun r R n => let ⟨r', a, b, c⟩ := ih r R n; ⟨r', a, b, .ask c⟩
  | choose q _ ih =>
      intro r R n
      obtain ⟨r', a, b, c⟩ := ih _ (R.with_ _ _ _ _) n
      refine ⟨r', a, b, .choose q ?_⟩
      rw [R.drawn]
      simpa only [R.toks.symm, R.heap.symm, R.os.symm] using c
  | os _ ih =>
      intro r R n
      obtain ⟨r', a, b, c⟩ := ih _ (R.with_ _ _ _ _) n
      refine ⟨r', a, b, .os ?_⟩
      rw [R.os]
      simpa only [R.toks.symm, R.heap.symm, R.drawn.symm] using c
  | handled _ ih => exact fun r R n => let ⟨r', a, b, c⟩ := ih r R n; ⟨r', a, b, .handled c⟩
  | stack _ ih => exact fun r R n => let ⟨r', a, b, c⟩ := ih r R n; ⟨r', a, b, .stack c⟩
  | thread _ ih => exact fun r R n => let ⟨r', a, b, c⟩ := ih r R n; ⟨r', a, b, .thread c⟩
  | genState q _ ih =>
    intro r R n
    obtain ⟨r', a, b, c⟩ := ih r R n
    rcases R.at_ q with ⟨_, h1, _⟩ | ⟨X, _, _, h1, h2⟩
    · exact ⟨r', a, b, .genState h1 c⟩
    · refine ⟨r', a, b, .genState h1 ?_⟩
      rw [h2, poison_seen] at c
      exact c
  | newGen _ ih =>
    intro r R n
    obtain ⟨r', a, b, c⟩ := ih _ (R.push (fun _ _ _ _ _ _ z => by cases z)) n
    refine ⟨r', a, b, .newGen ?_⟩
    rw [R.size]
    exact c
  | call _ _ ih1 ih2 =>
    intro r R n
    obtain ⟨r1, a1, _, c1⟩ := ih1 r R .nil
    obtain ⟨r2, a2, b2, c2⟩ := ih2 r1 a1 .nil
    exact ⟨r2, a2, b2, .call c1 c2⟩
  | callSusp _ ih =>
    intro r R n
    obtain ⟨r1, a1, b1, c1⟩ := ih r R .nil
    exact ⟨r1, a1, noGen.app b1 rfl, .callSusp c1⟩
  | «yield» => exact fun r R _ => ⟨r, R, .nil, .yield⟩
  | resumeFresh q r1 qu r2 ih1 ih2 =>
    intro r R n
    rcases R.at_ q with ⟨hB, h1, _⟩ | ⟨X, _, hs, _, h2⟩
    · obtain ⟨ra, a1, b1, c1⟩ := ih1 _ (R.set hB (fun _ _ _ _ _ _ z => by cases z)) .nil
      obtain ⟨rb, a2, b2, c2⟩ := ih2 _ (a1.set hB b1.fine) n
      exact ⟨rb, a2, b2, .resumeFresh h1 c1 qu c2⟩
    · cases X <;> first | (cases hs; done) | (cases h2; done)
  | resumeSuspended q r1 qu r2 ih1 ih2 =>
    intro r R n
    rcases R.at_ q with ⟨hB, h1, hf⟩ | ⟨X, _, hs, _, h2⟩
    · obtain ⟨ra, a1, b1, c1⟩ := ih1 _ (R.set hB (fun _ _ _ _ _ _ z => by cases z)) (hf _ _ _ _ _ _ rfl)
      obtain ⟨rb, a2, b2, c2⟩ := ih2 _ (a1.set hB b1.fine) n
      exact ⟨rb, a2, b2, .resumeSuspended h1 c1 qu c2⟩
    · cases X with
      | suspended k l c p fs cl =>
        injection h2 with h3
        rw [h3] at r1
        exact (stuck_runs rfl r1).elim
      | _ => cases hs
  | resumeJustStarted q nv _ ih =>
    intro r R n
    rcases R.at_ q with ⟨hB, h1, _⟩ | ⟨X, _, hs, _, h2⟩
    · obtain ⟨rb, a2, b2, c2⟩ := ih _ R n
      exact ⟨rb, a2, b2, .resumeJustStarted h1 nv c2⟩
    · cases X <;> first | (cases hs; done) | (cases h2; done)
  | resumeThrowFresh q _ ih =>
    intro r R n
    rcases R.at_ q with ⟨hB, h1, _⟩ | ⟨X, _, hs, _, h2⟩
    · obtain ⟨rb, a2, b2, c2⟩ := ih _ (R.set hB (fun _ _ _ _ _ _ z => by cases z)) n
      exact ⟨rb, a2, b2, .resumeThrowFresh h1 c2⟩
    · cases X <;> first | (cases hs; done) | (cases h2; done)
  | resumeRunning q _ ih =>
    intro r R n
    rcases R.at_ q with ⟨hB, h1, _⟩ | ⟨X, _, hs, _, h2⟩
    · obtain ⟨rb, a2, b2, c2⟩ := ih _ R n
      exact ⟨rb, a2, b2, .resumeRunning h1 c2⟩
    · cases X <;> first | (cases hs; done) | (cases h2; done)
  | resumeFinished q _ ih =>
    intro r R n
    rcases R.at_ q with ⟨hB, h1, _⟩ | ⟨X, _, hs, _, h2⟩
    · obtain ⟨rb, a2, b2, c2⟩ := ih _ R n
      exact ⟨rb, a2, b2, .resumeFinished h1 c2⟩
    · cases X <;> first | (cases hs; done) | (cases h2; done)
  | segRet _ _ ih1 ih2 =>
    intro r R n
    obtain ⟨r1, a1, _, c1⟩ := ih1 r R .nil
    obtain ⟨r2, a2, b2, c2⟩ := ih2 r1 a1 n.tail
    exact ⟨r2, a2, b2, .segRet c1 c2⟩
  | segGen _ _ _ _ =>
    intro r R n
    exact absurd n.head (by intro z; cases z)
  | segSuspOut q _ ih =>
    intro r R n
    obtain ⟨r1, a1, b1, c1⟩ := ih r R .nil
    exact ⟨r1, a1, noGen.app b1 n, .segSuspOut q c1⟩
  | segSuspGen q _ _ _ _ _ =>
    intro r R n
    rw [n.split] at q
    cases q
end Gf
end
section
set_option maxHeartbeats 2000000
/-! The same for wp, wpAny, and what it says of the sleeping generators. -/
namespace Gf
open PySem
open Sem (wp)
section
variable {B : Nat → Option GenState}
theorem wakes_rel {M : Model} {Γ : Ctx} {p : Pos} {g : Nat} {rs : Resume} {s s' r : Shared} {res : GenResult} (R : Rel B s r) (h : Wakes M Γ p g rs s res s') : ∃ r', Rel B s' r' ∧ Wakes M Γ p g rs r res r' := by
  unfold Wakes at h
  split at h
  · exact h.elim
  · rename_i c e
    rcases R.at_ e with ⟨hB, h1, _⟩ | ⟨X, _, hs, _, h2⟩
    · cases rs with
      | send v =>
        cases v with
        | none =>
          obtain ⟨e₁, s₁, hr, hq, rfl, rfl⟩ := h
          obtain ⟨ra, a1, b1, c1⟩ := runs_rel hr _ (R.set hB (fun _ _ _ _ _ _ z => by cases z)) .nil
          refine ⟨_, a1.set hB b1.fine, ?_⟩
          unfold Wakes
          rw [h1]
          exact ⟨e₁, ra, c1, hq, rfl, rfl⟩
        | _ =>
          obtain ⟨rfl, rfl⟩ := h
          refine ⟨r, R, ?_⟩
          unfold Wakes
          rw [h1]
          exact ⟨rfl, rfl⟩
      | throw x =>
        obtain ⟨rfl, rfl⟩ := h
        refine ⟨_, R.set hB (fun _ _ _ _ _ _ z => by cases z), ?_⟩
        unfold Wakes
        rw [h1]
        exact ⟨rfl, rfl⟩
    · cases X <;> first | (cases hs; done) | (cases h2; done)
  · rename_i k0 l0 c0 p0 fs0 cl0 e
    rcases R.at_ e with ⟨hB, h1, hf⟩ | ⟨X, _, hs, _, h2⟩
    · obtain ⟨e₁, s₁, hr, hq, rfl, rfl⟩ := h
      obtain ⟨ra, a1, b1, c1⟩ := runs_rel hr _ (R.set hB (fun _ _ _ _ _ _ z => by cases z)) (hf _ _ _ _ _ _ rfl)
      refine ⟨_, a1.set hB b1.fine, ?_⟩
      unfold Wakes
      rw [h1]
      exact ⟨e₁, ra, c1, hq, rfl, rfl⟩
    · cases X with
      | suspended k l c p fs cl =>
        injection h2 with h3
        obtain ⟨e₁, s₁, hr, _⟩ := h
        rw [h3] at hr
        exact (stuck_runs rfl hr).elim
      | _ => cases hs
  · rename_i e
    rcases R.at_ e with ⟨hB, h1, _⟩ | ⟨X, _, hs, _, h2⟩
    · obtain ⟨rfl, rfl⟩ := h
      refine ⟨r, R, ?_⟩
      unfold Wakes
      rw [h1]
      exact ⟨rfl, rfl⟩
    · cases X <;> first | (cases hs; done) | (cases h2; done)
  · rename_i e
    rcases R.at_ e with ⟨hB, h1, _⟩ | ⟨X, _, hs, _, h2⟩
    · obtain ⟨rfl, rfl⟩ := h
      refine ⟨r, R, ?_⟩
      unfold Wakes
      rw [h1]
      exact ⟨rfl, rfl⟩
    · cases X <;> first | (cases hs; done) | (cases h2; done)

theorem wp_rel {α : Type} (M : Model) (Γ : Ctx) (t : Sem α) : ∀ (Q : α → Pos → Shared → Prop) (E : Value → Pos → Shared → Prop) (p : Pos) (s r : Shared), Rel B s r → wp M Γ t Q E p s →
    wp M Γ t (fun a p' r' => ∃ s', Rel B s' r' ∧ Q a p' s') (fun e p' r' => ∃ s', Rel B s' r' ∧ E e p' s') p r := by
  induction t with
  | pure a =>
    intro Q E p s r R h
    exact ⟨s, R, h⟩
  | raise e =>
    intro Q E p s r R h
    exact ⟨s, R, h⟩
  | unsupported what =>
    intro Q E p s r R h
    exact h.elim
  | finish x =>
    intro Q E p s r R h
    exact h.elim
  | register a k =>
    intro Q E p s r R h
    exact h.elim
  | «yield» v g l k =>
    intro Q E p s r R h
    exact h.elim
  | fork c k =>
    intro Q E p s r R h
    exact h.elim
  | await a f d l k =>
    intro Q E p s r R h
    exact h.elim
  | rule tag k ih =>
    intro Q E p s r R h
    exact ih () Q E p s r R h
  | «at» p1 k ih =>
    intro Q E p s r R h
    exact ih () Q E p1 s r R h
  | load a part k ih =>
    intro Q E p s r R h
    obtain ⟨o, e1, e2⟩ := h
    exact ⟨o, by rw [R.heap]; exact e1, ih o Q E p s r R e2⟩
  | update a part f k ih =>
    intro Q E p s r R h
    obtain ⟨e1, e2⟩ := h
    refine ⟨by rw [R.heap]; exact e1, ?_⟩
    have z := ih () Q E p _ _ (R.with_ _ _ _ _) e2
    rw [R.heap]
    simpa only [R.drawn.symm, R.toks.symm, R.os.symm] using z
  | loadIfAlive a k ih =>
    intro Q E p s r R h
    have z := ih _ Q E p s r R h
    show wp M Γ (k (r.heap.get? a)) _ _ p r
    rw [R.heap]
    exact z
  | point l k ih =>
    intro Q E p s r R h
    exact ih () Q E p s r R h
  | alloc o k ih =>
    intro Q E p s r R h
    have z := ih _ Q E p _ _ (R.with_ _ _ _ _) h
    show wp M Γ (k r.heap.objs.size) _ _ p { r with heap := r.heap.push o }
    rw [R.heap]
    simpa only [R.drawn.symm, R.toks.symm, R.os.symm] using z
  | fresh k ih =>
    intro Q E p s r R h
    have z := ih _ Q E p _ _ (R.with_ _ _ _ _) h
    show wp M Γ (k r.toks) _ _ p { r with toks := r.toks + 1 }
    rw [R.toks]
    simpa only [R.drawn.symm, R.heap.symm, R.os.symm] using z
  | ask k ih =>
    intro Q E p s r R h
    exact ih _ Q E p s r R h
  | choose src m k ih =>
    intro Q E p s r R h
    refine ⟨h.1, ?_⟩
    have z := ih _ Q E p _ _ (R.with_ _ _ _ _) h.2
    rw [R.drawn]
    simpa only [R.toks.symm, R.heap.symm, R.os.symm] using z
  | os q l k ih =>
    intro Q E p s r R h
    have z := ih _ Q E p _ _ (R.with_ _ _ _ _) h
    show wp M Γ (k (Os.step r.os q).2) _ _ p { r with os := (Os.step r.os q).1 }
    rw [R.os]
    simpa only [R.toks.symm, R.heap.symm, R.drawn.symm] using z
  | call c hd g l k ih =>
    intro Q E p s r R h
    obtain ⟨rr, s1, h1, h2⟩ := h
    obtain ⟨r1, a1, _, c1⟩ := runs_rel h1 r R .nil
    exact ⟨rr, r1, c1, ih rr Q E p s1 r1 a1 h2⟩
  | handled own k ih =>
    intro Q E p s r R h
    exact ih _ Q E p s r R h
  | newGen c k ih =>
    intro Q E p s r R h
    have z := ih _ Q E p _ _ (R.push (fun _ _ _ _ _ _ z => by cases z)) h
    show wp M Γ (k r.gens.size) _ _ p { r with gens := r.gens.push (.fresh c) }
    rw [R.size]
    exact z
  | genState g k ih =>
    intro Q E p s r R h
    obtain ⟨st, e1, e2⟩ := h
    rcases R.at_ e1 with ⟨_, h1, _⟩ | ⟨X, _, _, h1, h2⟩
    · exact ⟨st, h1, ih _ Q E p s r R e2⟩
    · refine ⟨X, h1, ?_⟩
      rw [h2, poison_seen] at e2
      exact ih _ Q E p s r R e2
  | resume g rs l k ih =>
    intro Q E p s r R h
    obtain ⟨res, s1, h1, h2⟩ := h
    obtain ⟨r1, a1, b1⟩ := wakes_rel R h1
    exact ⟨res, r1, b1, ih res Q E p s1 r1 a1 h2⟩
  | stack k ih =>
    intro Q E p s r R h
    exact ih _ Q E p s r R h
  | thread k ih =>
    intro Q E p s r R h
    exact ih _ Q E p s r R h

/-- r with its sleepers stuck -/
def numb (r : Shared) : Shared := { r with gens := r.gens.map poison }
def held (r : Shared) (i : Nat) : Option GenState := (r.gens[i]?).bind fun x => if asleep x then some x else none
theorem rel_numb (r : Shared) : Rel (held r) (numb r) r := by
  refine ⟨rfl, by show r.gens.size = (r.gens.map poison).size; simp, fun i X e => ?_, fun i e => ?_⟩
  · unfold held at e
    obtain ⟨y, e1, e2⟩ := Option.bind_eq_some_iff.mp e
    split at e2
    · rename_i ha
      cases e2
      refine ⟨ha, e1, ?_⟩
      show (r.gens.map poison)[i]? = _
      rw [Array.getElem?_map, e1]; rfl
    · cases e2
  · have na : ∀ y, r.gens[i]? = some y → asleep y = false := fun y hy => by
      unfold held at e
      rw [hy, Option.bind_some] at e
      cases q : asleep y with
      | false => rfl
      | true => rw [q] at e; cases e
    refine ⟨?_, fun y hy => ?_⟩
    · show (r.gens.map poison)[i]? = _
      rw [Array.getElem?_map]
      cases q : r.gens[i]? with
      | none => rfl
      | some y =>
        have := na y q
        cases y with
        | suspended => cases this
        | _ => rfl
    · intro k l c p fs cl z
      have := na y hy
      rw [z] at this
      cases this
/-- what stands behind a run of what numb r does: r' is s' with the sleepers as they were -/
structure Woke (r s' r' : Shared) : Prop where
  rest : r' = { s' with gens := r'.gens }
  kept : ∀ (i : Nat) (X : GenState), r.gens[i]? = some X → asleep X = true → r'.gens[i]? = some X
  bare : (∀ y ∈ s'.gens, y.bare = true) → ∀ y ∈ r'.gens, y.bare = true
theorem woke_of {r s' r' : Shared} (h : Rel (held r) s' r') : Woke r s' r' := by
  refine ⟨h.rest, fun i X e ha => ?_, fun hb y hy => ?_⟩
  · have : held r i = some X := by unfold held; rw [e, Option.bind_some, if_pos ha]
    exact (h.held i X this).2.1
  · obtain ⟨i, hi, rfl⟩ := Array.mem_iff_getElem.mp hy
    cases q : held r i with
    | none =>
      have e := (h.free i q).1
      rw [Array.getElem?_eq_getElem hi] at e
      exact hb _ (Array.mem_of_getElem? e)
    | some X =>
      obtain ⟨_, h2, h3⟩ := h.held i X q
      have := hb _ (Array.mem_of_getElem? h3)
      rw [poison_bare] at this
      rw [Array.getElem?_eq_getElem hi] at h2
      rw [Option.some.inj h2]
      exact this
theorem Woke.heap {r s' r' : Shared} (h : Woke r s' r') : r'.heap = s'.heap := by rw [h.rest]
theorem Woke.os {r s' r' : Shared} (h : Woke r s' r') : r'.os = s'.os := by rw [h.rest]
/-- THE FRAME RULE for sleeping generators -/
theorem wpAny_numb {α : Type} {M : Model} {A : Around} {t : Sem α} {Q : α → Shared → Prop} {E : Value → Shared → Prop} {r : Shared} (h : wpAny M A t Q E (numb r)) :
    wpAny M A t (fun a r' => ∃ s', Woke r s' r' ∧ Q a s') (fun e r' => ∃ s', Woke r s' r' ∧ E e s') r := fun Γ p hΓ =>
  Sem.wp_mono M Γ t (fun a p' r' ⟨s', a1, a2⟩ => ⟨s', woke_of a1, a2⟩) (fun e p' r' ⟨s', a1, a2⟩ => ⟨s', woke_of a1, a2⟩) p r (wp_rel M Γ t _ _ p _ _ (rel_numb r) (h Γ p hΓ))
end
end Gf
end
section
set_option maxHeartbeats 2000000
/-! One run of a generator's code, to its end or its next yield. -/
namespace Gf
open PySem PySem.Spec PyProof.Rows
/-- from s the code comes to an end at which F holds -/
def SegE (M : Model) (A : Around) (F : End → Shared → Prop) (c : Code) (t : Sem PySem.Fin) (fs : List Frame) (s : Shared) : Prop :=
  ∀ Γ p, Γ.code = c → Γ.Woken A → ∃ e s', Runs M Γ p t fs s e s' ∧ F e s'
section
variable {M : Model} {A : Around} {F : End → Shared → Prop} {c : Code} {fs : List Frame} {s : Shared}
theorem se_wrap {α : Type} {m : Sem α} {K : α → Sem PySem.Fin} {J : Value → Sem PySem.Fin} {gd : Bool → Bool} {lv : List Value → List Value}
    (h : wpAny M (A.over c fs) m (fun a s1 => SegE M A F c (K a) fs s1) (fun x s1 => SegE M A F c (J x) fs s1) s) : SegE M A F c (m.wrap K J gd lv) fs s := fun Γ p hc hΓ => by
  subst hc
  exact runs_wrap_of_wp K J gd lv m (h (Γ.over fs) p (hΓ.over fs)) (fun a p1 s1 z => z Γ p1 rfl hΓ) fun x p1 s1 z => z Γ p1 rfl hΓ
theorem se_bind {α β : Type} {m : Sem α} {f : α → Sem β} {K : β → Sem PySem.Fin} {J : Value → Sem PySem.Fin} {gd : Bool → Bool} {lv : List Value → List Value}
    (h : wpAny M (A.over c fs) m (fun a s1 => SegE M A F c ((f a).wrap K J gd lv) fs s1) (fun _ _ => False) s) : SegE M A F c ((m >>= f).wrap K J gd lv) fs s := by
  rw [Sem.bind_eq_wrap', Sem.wrap_wrap]
  exact se_wrap (wpAny_mono h (fun _ _ z => z) fun _ _ z => z.elim)
theorem se_bind0 {α : Type} {m : Sem α} {K : α → Sem PySem.Fin} (h : wpAny M (A.over c fs) m (fun a s1 => SegE M A F c (K a) fs s1) (fun _ _ => False) s) : SegE M A F c (m >>= K) fs s := by
  rw [Sem.bind_eq_wrap']
  exact se_wrap (wpAny_mono h (fun _ _ z => z) fun _ _ z => z.elim)
theorem se_at {p' : Pos} {k : Unit → Sem PySem.Fin} (h : SegE M A F c (k ()) fs s) : SegE M A F c (.at p' k) fs s :=
  se_wrap (m := standAt p') (K := k) (J := .raise) (gd := id) (lv := id) (wpAny_standAt h)
theorem se_point {l : List Value} {k : Unit → Sem PySem.Fin} (h : SegE M A F c (k ()) fs s) : SegE M A F c (.point l k) fs s :=
  se_wrap (m := point) (K := k) (J := .raise) (gd := id) (lv := fun _ => l) (wpAny_point h)
theorem se_call {c' : Code} {hd : Option Value} {g : Bool} {l : List Value} {k : Result → Sem PySem.Fin} (h : ∀ p : Pos, SegE M A F c' (M.den c') (.ret k hd g l c p [] :: fs) s) : SegE M A F c (.call c' hd g l k) fs s := fun Γ p hc hΓ => by
  subst hc
  obtain ⟨e, s', h1, h2⟩ := h p (Γ.goto c') p rfl (hΓ.goto c')
  exact ⟨e, s', runs_call_seg h1, h2⟩
theorem se_leaf {k : Result → Sem PySem.Fin} {hd : Option Value} {g : Bool} {l kp : List Value} {c1 : Code} {p1 : Pos} (r : Result) (h : SegE M A F c1 (k r) fs s) : SegE M A F c (leafOf r) (.ret k hd g l c1 p1 kp :: fs) s := fun Γ p hc hΓ => by
  subst hc
  obtain ⟨e, s', h1, h2⟩ := h (Γ.goto c1) p1 rfl (hΓ.goto c1)
  exact ⟨e, s', Runs.pop r h1, h2⟩
theorem se_again {c' : Code} (hq : c'.quiet = true) (h : SegE M A F c' (M.den c') fs s) : SegE M A F c (.pure (.again c')) fs s := fun Γ p hc hΓ => by
  subst hc
  obtain ⟨e, s', h1, h2⟩ := h (Γ.goto c') p rfl (hΓ.goto c')
  exact ⟨e, s', Runs.head (c₁ := c') (fun _ _ x => .again hq x) h1, h2⟩
theorem se_end (r : Result) (h : F (.ret r) s) : SegE M A F c (leafOf r) [] s := fun Γ p hc _ => ⟨.ret r, s, Runs.leaf r, h⟩
theorem se_yield {v : Value} {g : Bool} {l : List Value} {k : Resume → Sem PySem.Fin} (hfs : splitAtGen fs = none) (h : ∀ p : Pos, F (.susp v g l k c p fs) s) : SegE M A F c (.yield v g l k) fs s := fun Γ p hc _ => by
  subst hc
  exact ⟨_, s, Runs.yield' fs hfs, h p⟩
end
section
variable {prog : Program} {w : World} {A : Around} {F : End → Shared → Prop} {c : Code} {fs : List Frame} {s : Shared} {env : Env} {K : Flow → Sem PySem.Fin} {J : Value → Sem PySem.Fin} {gd : Bool → Bool} {lv : List Value → List Value}
/-- the end of a block -/
theorem se_nil (h : SegE (model prog w) A F c (K .next) fs s) : SegE (model prog w) A F c ((execs [] env).wrap K J gd lv) fs s := h
theorem se_cons {st : Stmt} {rest : List Stmt} (h : SegE (model prog w) A F c ((exec st env).wrap (fun f => match f with | .next => (execs rest env).wrap K J gd lv | f => K f) J gd lv) fs s) :
    SegE (model prog w) A F c ((execs (st :: rest) env).wrap K J gd lv) fs s := by
  rw [execs_cons_wrap]
  exact h
/-- what the loop's code hands back to -/
abbrev forBack (env : Env) (c : Code) (p : Pos) (K : Flow → Sem PySem.Fin) (J : Value → Sem PySem.Fin) (gd : Bool → Bool) (lv : List Value → List Value) : Frame :=
  .ret (fun r => ((match r with | .ok f => (.pure f : Sem Flow) | .error e => .raise e).onRaise (L2.cameBack env)).wrap K J gd lv) none (gd false) (lv []) c p []
theorem se_for {target iter : Expr} {body : List Stmt} {pos : Pos}
    (h : wpAny (model prog w) (A.over c fs) (eval iter env) (fun xv s1 => wpAny (model prog w) (A.over c fs) (pyIter xv) (fun it s2 => ∀ p : Pos,
      SegE (model prog w) A F (.forLoop target it body [] env) ((model prog w).den (.forLoop target it body [] env)) (forBack env c p K J gd lv :: fs) s2) (fun _ _ => False) s1) (fun _ _ => False) s)
    (hs : ∀ x, foldedSetIterable iter env x = pure x := by intro _; rfl) :
    SegE (model prog w) A F c ((exec (.For target iter body [] pos) env).wrap K J gd lv) fs s := by
  rw [exec_For]
  refine se_bind (wpAny_standAt ?_)
  refine se_bind (wpAny_mono h (fun xv s1 h1 => ?_) fun _ _ z => z.elim)
  rw [hs]
  refine se_bind (wpAny_pure ?_)
  refine se_bind (wpAny_standAt ?_)
  refine se_bind (wpAny_holding (wpAny_mono h1 (fun it s2 h2 => ?_) fun _ _ z => z.elim))
  exact se_call h2
/-- behind a turn's body -/
def turnK (target : Expr) (it : Value) (body : List Stmt) (env : Env) : Flow → Sem PySem.Fin := fun f => match f with
  | .next | .cont => .pure (.again (.forLoop target it body [] env))
  | .brk => .pure (.done .next)
  | .ret v => .pure (.done (.ret v))
def turnJ (env : Env) : Value → Sem PySem.Fin := fun e => ((do noteFrame e env; theTreesLotGoes e : Sem Unit).bind fun _ => .raise e)
/-- one turn -/
theorem se_turn {target : Expr} {it : Value} {body : List Stmt} (hb : (Code.block [] env).quiet = true)
    (h : wpAny (model prog w) (A.over (.forLoop target it body [] env) fs) (pyNext it) (fun r s1 => match r with
      | none => SegE (model prog w) A F (.block [] env) (.pure (.done .next)) fs s1
      | some v => wpAny (model prog w) (A.over (.forLoop target it body [] env) fs) (letOwnedTupleGo target it v) (fun _ s2 => wpAny (model prog w) (A.over (.forLoop target it body [] env) fs) (assign target env v) (fun _ s3 =>
          SegE (model prog w) A F (.forLoop target it body [] env) ((execs body env).wrap (turnK target it body env) (turnJ env) id id) fs s3) (fun _ _ => False) s2) (fun _ _ => False) s1) (fun _ _ => False) s) :
    SegE (model prog w) A F (.forLoop target it body [] env) ((model prog w).den (.forLoop target it body [] env)) fs s := by
  show SegE _ A F _ ((forTurn target it body [] env).onRaise (fun x => do noteFrame x env; theTreesLotGoes x)) fs s
  rw [Sem.onRaise_eq_wrap]
  unfold forTurn
  refine se_bind (wpAny_standAt ?_)
  refine se_bind (wpAny_onRaise (wpAny_mono h (fun r s1 h1 => ?_) fun _ _ z => z.elim))
  cases r with
  | none => exact se_again hb h1
  | some v =>
    refine se_bind (wpAny_mono h1 (fun _ s2 h2 => ?_) fun _ _ z => z.elim)
    refine se_bind (wpAny_mono h2 (fun _ s3 h3 => ?_) fun _ _ z => z.elim)
    rw [Sem.bind_eq_wrap', Sem.wrap_wrap]
    exact Eq.mpr (congrArg (fun t => SegE (model prog w) A F (.forLoop target it body [] env) t fs s3) (Sem.wrap_congr (execs body env) (K' := turnK target it body env) (H' := turnJ env) id id (fun f => by cases f <;> rfl) (fun e => rfl))) h3
theorem se_func {body : List Stmt} (h : SegE (model prog w) A F (.func body env) ((execs body env).wrap (fun f => .pure (.done (.ret (match f with | .ret v => v | _ => .none)))) (fun e => (leaving env e).bind fun _ => .raise e) id id) fs s) :
    SegE (model prog w) A F (.func body env) ((model prog w).den (.func body env)) fs s := by
  show SegE _ A F _ (.point [] fun _ => ((execs body env).onRaise (leaving env)) >>= _) fs s
  refine se_point ?_
  rw [Sem.onRaise_eq_wrap, Sem.bind_eq_wrap', Sem.wrap_wrap]
  exact Eq.mpr (congrArg (fun t => SegE (model prog w) A F (.func body env) t fs s) (Sem.wrap_congr (execs body env) (K' := fun f => .pure (.done (.ret (match f with | .ret v => v | _ => .none)))) (H' := fun e => (leaving env e).bind fun _ => .raise e) id id (fun f => by cases f <;> rfl)
    (fun e => by rw [Sem.bind_eq_wrap, Sem.wrap_wrap, Sem.bind_eq_wrap]; rfl))) h
/-- yield e as a statement: it sleeps; woken by next, it goes on -/
theorem se_yieldS {e : Expr} {yp pos : Pos} (hfs : splitAtGen fs = none) (hco : env.scope.isCoroutine = false) (hi : interactive env = false)
    (h : wpAny (model prog w) (A.over c fs) (eval e env) (fun v s1 => ∀ (p : Pos) (k : Resume → Sem PySem.Fin), (∀ F' s2, SegE (model prog w) A F' c (K .next) fs s2 → SegE (model prog w) A F' c (k (.send .none)) fs s2) → F (.susp v (gd false) (lv []) k c p fs) s1) (fun _ _ => False) s) :
    SegE (model prog w) A F c ((exec (.Expr (.Yield (some e) yp) pos) env).wrap K J gd lv) fs s := by
  rw [exec_Expr env _ pos hi rfl]
  refine se_at ?_
  show SegE _ A F c (((eval e env >>= fun v => (standAt yp >>= fun _ => yieldOut env v)) >>= fun x => dropValue (.Yield (some e) yp) pos x).wrap K J gd lv) fs s
  have hy : ∀ v, yieldOut env v = yieldValue v := fun v => by
    unfold yieldOut
    rw [hco]
    rfl
  simp only [hy]
  rw [Sem.bind_eq_wrap', Sem.bind_eq_wrap', Sem.wrap_wrap, Sem.wrap_wrap]
  refine se_wrap (wpAny_mono h (fun v s1 h1 => ?_) fun _ _ z => z.elim)
  refine se_at (se_yield hfs fun p => h1 p _ fun F' s2 h2 => ?_)
  exact h2
end
end Gf
end
section
set_option maxHeartbeats 4000000
/-! for y in range(c): for x in range(a): yield (x, y) -/
namespace Gf
open PySem PySem.Spec PyProof.Rows
theorem nay : ¬ (("a" : Str) = "y") := by decide +kernel
theorem nax : ¬ (("a" : Str) = "x") := by decide +kernel
theorem nyx : ¬ (("y" : Str) = "x") := by decide +kernel
structure GEnv (env : Env) (L : Addr) : Prop where
  kind : env.scope.kind = .function
  co : env.scope.isCoroutine = false
  loc : env.locals = L
  glob : env.globals = mainGlobals
  blt : env.builtins = builtinsNs
  ka : env.kindOf "a" = some .local
  kc : env.kindOf "c" = some .local
  kx : env.kindOf "x" = some .local
  ky : env.kindOf "y" = some .local
  kr : env.kindOf "range" = some .globalImplicit
def KeepB (base h : Heap) : Prop := ∀ b o, base.get? b = some o → h.get? b = some o
structure BaseR (base : Heap) : Prop where
  ex : ∃ mg mb, base.Ns mainGlobals mg ∧ mg "range" = none ∧ base.Ns builtinsNs mb ∧ mb "range" = some (.type "range")
/-- all but what the generator owns is kept -/
def Wrote (own : List Addr) (s s1 : Shared) : Prop := ∃ h tk, s1 = { s with heap := h, toks := tk } ∧ ∀ b o, b ∉ own → s.heap.get? b = some o → h.get? b = some o
def Newer (own : List Addr) (s : Shared) (t : Addr) : Prop := ∀ b o, b ∉ own → s.heap.get? b = some o → b < t
theorem Wrote.refl (own : List Addr) (s : Shared) : Wrote own s s := ⟨s.heap, s.toks, rfl, fun _ _ _ e => e⟩
theorem Wrote.step {own : List Addr} {s s1 : Shared} (w : Wrote own s s1) {h : Heap} {tk : Nat} (k : ∀ b o, b ∉ own → s.heap.get? b = some o → s1.heap.get? b = some o → h.get? b = some o) : Wrote own s { s1 with heap := h, toks := tk } := by
  obtain ⟨h1, tk1, rfl, k1⟩ := w
  exact ⟨h, tk, rfl, fun b o hb e => k b o hb e (k1 b o hb e)⟩
theorem Wrote.newer {own : List Addr} {s s1 : Shared} (w : Wrote own s s1) : Newer own s s1.heap.objs.size := fun b o hb e => by
  obtain ⟨h1, tk1, rfl, k1⟩ := w
  exact Heap.lt_size (k1 b o hb e)
section
variable {prog : Program} {w : World} {A : Around} {env : Env} {L : Addr} {base : Heap} {s : Shared} {E : Value → Shared → Prop}
theorem range_go {v : Str} {m : Str → Option Value} {n : Int} {t : Tok} {p1 p2 p3 : Pos} {Q : Value → Shared → Prop} (G : GEnv env L) (B : BaseR base) (hv : env.kindOf v = some .local) (hn : s.heap.Ns L m) (hm : m v = some (.int n t)) (kb : KeepB base s.heap) (h0 : 0 ≤ n) (h1 : n < 2 ^ 62)
    (q : ∀ h tk, (∀ b o, s.heap.get? b = some o → h.get? b = some o) → IsRangeIter h (s.heap.objs.size + 1) 0 n 1 → Q (.ref (s.heap.objs.size + 1)) { s with heap := h, toks := tk }) (hd : (v == ("__debug__" : Str)) = false := by decide) :
    wpAny (model prog w) A (eval (.Call (.Name "range" p1) [.Name v p2] [] p3) env) (fun xv s1 => wpAny (model prog w) A (pyIter xv) Q E s1) E s := by
  obtain ⟨mg, mb, b1, b2, b3, b4⟩ := B.ex
  refine Call_ (Calls.Name_function_global G.kind G.kr (Calls.loadGlobal_builtin (by rw [G.glob]; exact b1.keeps kb) b2 (by rw [G.blt]; exact b3.keeps kb) b4 ?_) (by decide))
  refine PyProof.Rows.callWith_type1 ?_ rfl rfl
  show wpAny _ _ (spliced ((false, eval (.Name v p2) env) :: backTo p3 (starEach [] env))) _ _ s
  refine Calls.spliced_cons (wpAny_Name (wpAny_loadName_local G.kind hv (by rw [G.loc]; exact hn) hm ?_) hd)
  refine Calls.spliced_nil ?_
  refine call_range_1 (wpAny_pyIter_range (IsRange.new ..) (small_one (by decide) (by decide) (by omega) h1) ?_)
  have hz : Builtin.Range.rangeSize 0 n 1 = n := by
    rw [rangeSize_one]
    split <;> omega
  have z := q ((s.heap.push { cls := .type "range", data := .fields #[.int 0 s.toks, .int n t, .int 1 (s.toks + 1)] }).push { cls := .type "range_iterator", data := .fields #[rawInt 0, rawInt (Builtin.Range.rangeSize 0 n 1), rawInt 1] }) (s.toks + 1 + 1)
    (fun b o e => Heap.get?_push_of_some _ (Heap.get?_push_of_some _ e)) (by
      have e := Heap.get?_push_size (s.heap.push { cls := .type "range", data := .fields #[.int 0 s.toks, .int n t, .int 1 (s.toks + 1)] }) (o := { cls := .type "range_iterator", data := .fields #[rawInt 0, rawInt (Builtin.Range.rangeSize 0 n 1), rawInt 1] }) rfl
      rw [Heap.size_push] at e
      show (_ : Heap).get? (s.heap.objs.size + 1) = _
      rw [e, hz])
  have e2 : (s.heap.push { cls := .type "range", data := .fields #[.int 0 s.toks, .int n t, .int 1 (s.toks + 1)] }).objs.size = s.heap.objs.size + 1 := Heap.size_push ..
  rw [← e2] at z
  exact z
end
/-- woken, the generator's code comes to an end at which F holds -/
def Going (M : Model) (A : Around) (gs : GenState) (F : End → Shared → Prop) (s : Shared) : Prop := match gs with
  | .fresh cd => SegE M A F cd (M.den cd) [] s
  | .suspended k _ cd _ fs _ => SegE M A F cd (k (.send .none)) fs s
  | _ => False
/-- a record that is no cell, none of the base -/
def Mine (base h : Heap) (b : Addr) : Prop := base.get? b = none ∧ ∃ o, h.get? b = some o ∧ ∀ v, o.data ≠ .cell v
/-- n places are still to come of a generator whose own records at own stand as in h -/
def GW (M : Model) (A : Around) (base : Heap) (a c : Int) : Nat → GenState → List Addr → Heap → Prop
  | 0 => fun gs own h => ∀ s : Shared, (∀ b ∈ own, ∀ o, h.get? b = some o → s.heap.get? b = some o) → KeepB base s.heap →
      Going M A gs (fun e s1 => (e = .ret (.ok (.ret .none)) ∨ e = .ret (.ok .next)) ∧ Wrote own s s1) s
  | m + 1 => fun gs own h => ∀ s : Shared, (∀ b ∈ own, ∀ o, h.get? b = some o → s.heap.get? b = some o) → KeepB base s.heap →
      Going M A gs (fun e s1 => e.quiet = true ∧ asleep e.genState = true ∧ ∃ (x y : Int) (t : Addr) (own' : List Addr) (tx ty : Tok), e.result = .yielded (.ref t) ∧ 0 ≤ x ∧ x < a ∧ 0 ≤ y ∧ y < c ∧ (m : Int) = (a - 1 - x) + (c - 1 - y) * a ∧
        Wrote own s s1 ∧ Newer own s t ∧ s1.heap.get? t = some { cls := .type "tuple", data := .seq #[.int x tx, .int y ty] } ∧ t ∉ own' ∧ (∀ b ∈ own', b ∈ own ∨ Newer own s b) ∧ (∀ b ∈ own', Mine base s1.heap b) ∧ GW M A base a c m e.genState own' s1.heap) s
/-- where the inner loop stands: y its row, x what comes next -/
structure At (base : Heap) (L Iy Ix : Addr) (a c : Int) (h : Heap) (y x : Int) : Prop where
  ns : ∃ m ta ty, h.Ns L m ∧ m "a" = some (.int a ta) ∧ m "y" = some (.int y ty)
  iy : IsRangeIter h Iy (y + 1) (c - (y + 1)) 1
  ix : IsRangeIter h Ix x (a - x) 1
  kb : KeepB base h
  nL : base.get? L = none
  nY : base.get? Iy = none
  nX : base.get? Ix = none
theorem ns_iter {h : Heap} {L I : Addr} {m : Str → Option Value} {x l st : Int} (n : h.Ns L m) (i : IsRangeIter h I x l st) : L ≠ I := fun z => by
  obtain ⟨o, es, ep, e, d, _⟩ := n
  rw [z, i] at e
  cases e
  cases d
/-- an end with n places still to come ahead of it -/
def EndOk (M : Model) (A : Around) (base : Heap) (a c : Int) (n : Nat) (own : List Addr) (s : Shared) (e : End) (s1 : Shared) : Prop := match n with
  | 0 => (e = .ret (.ok (.ret .none)) ∨ e = .ret (.ok .next)) ∧ Wrote own s s1
  | m + 1 => e.quiet = true ∧ asleep e.genState = true ∧ ∃ (x y : Int) (t : Addr) (own' : List Addr) (tx ty : Tok), e.result = .yielded (.ref t) ∧ 0 ≤ x ∧ x < a ∧ 0 ≤ y ∧ y < c ∧ (m : Int) = (a - 1 - x) + (c - 1 - y) * a ∧
        Wrote own s s1 ∧ Newer own s t ∧ s1.heap.get? t = some { cls := .type "tuple", data := .seq #[.int x tx, .int y ty] } ∧ t ∉ own' ∧ (∀ b ∈ own', b ∈ own ∨ Newer own s b) ∧ (∀ b ∈ own', Mine base s1.heap b) ∧ GW M A base a c m e.genState own' s1.heap
theorem gw_iff {M : Model} {A : Around} {base : Heap} {a c : Int} {n : Nat} {gs : GenState} {own : List Addr} {h : Heap} :
    GW M A base a c n gs own h ↔ ∀ s : Shared, (∀ b ∈ own, ∀ o, h.get? b = some o → s.heap.get? b = some o) → KeepB base s.heap → Going M A gs (EndOk M A base a c n own s) s := by
  cases n <;> exact Iff.rfl
section
variable {prog : Program} {w : World} {A : Around} {env : Env} {L Iy : Addr} {base : Heap} {a c : Int} {px py pf q1 q2 q3 r1 r2 r3 r4 r5 : Pos} {kk : Nat} {fsO : List Frame}
abbrev yst (r1 r2 r3 r4 r5 : Pos) (kk : Nat) : Stmt := .Expr (.Yield (some (.Tuple [.Name "x" r1, .Name "y" r2] kk r3)) r4) r5
abbrev innS (px pf q1 q2 q3 r1 r2 r3 r4 r5 : Pos) (kk : Nat) : Stmt := .For (.Name "x" px) (.Call (.Name "range" q1) [.Name "a" q2] [] q3) [yst r1 r2 r3 r4 r5 kk] [] pf
def blkK (env : Env) (K : Flow → Sem PySem.Fin) (J : Value → Sem PySem.Fin) : Flow → Sem PySem.Fin := fun f => match f with
  | .next => (execs [] env).wrap K J id id
  | f => K f
/-- the inner loop hands back to the outer one's turn -/
abbrev fI (env : Env) (Iy : Addr) (py p px pf q1 q2 q3 r1 r2 r3 r4 r5 : Pos) (kk : Nat) : Frame :=
  forBack env (.forLoop (.Name "y" py) (.ref Iy) [innS px pf q1 q2 q3 r1 r2 r3 r4 r5 kk] [] env) p (blkK env (turnK (.Name "y" py) (.ref Iy) [innS px pf q1 q2 q3 r1 r2 r3 r4 r5 kk] env) (turnJ env)) (turnJ env) id id
/-- the inner loop is through: back to the outer one -/
theorem rowEnd {F : End → Shared → Prop} {y : Int} {Ix : Addr} {s : Shared} {p : Pos} (hh : ∀ (cd : Code) (p : Pos), (A.over cd (fI env Iy py p px pf q1 q2 q3 r1 r2 r3 r4 r5 kk :: fsO)).handled = none) (at_ : At base L Iy Ix a c s.heap y a)
    (h : ∀ hp : Heap, (∀ b o, b ≠ Ix → s.heap.get? b = some o → hp.get? b = some o) →
      SegE (model prog w) A F (.forLoop (.Name "y" py) (.ref Iy) [innS px pf q1 q2 q3 r1 r2 r3 r4 r5 kk] [] env) ((model prog w).den (.forLoop (.Name "y" py) (.ref Iy) [innS px pf q1 q2 q3 r1 r2 r3 r4 r5 kk] [] env)) fsO { s with heap := hp }) :
    SegE (model prog w) A F (.forLoop (.Name "x" px) (.ref Ix) [yst r1 r2 r3 r4 r5 kk] [] env) ((model prog w).den (.forLoop (.Name "x" px) (.ref Ix) [yst r1 r2 r3 r4 r5 kk] [] env)) (fI env Iy py p px pf q1 q2 q3 r1 r2 r3 r4 r5 kk :: fsO) s := by
  refine se_turn rfl ?_
  refine wpAny_pyNext_range_end (hh _ _) at_.ix (by omega) fun h1 eb => ?_
  show SegE _ _ _ _ (leafOf (.ok .next)) _ _
  refine se_leaf (.ok .next) ?_
  show SegE _ _ _ _ (.pure (.again (.forLoop (.Name "y" py) (.ref Iy) [innS px pf q1 q2 q3 r1 r2 r3 r4 r5 kk] [] env))) _ _
  exact se_again rfl (h h1 fun b o hb e => eb b o hb e)
/-- the outer loop's next row -/
theorem rowNext {F : End → Shared → Prop} {y : Int} {m : Str → Option Value} {ta : Tok} {s : Shared} (G : GEnv env L) (B : BaseR base) (ha : 0 < a) (ha2 : a < 2 ^ 62) (nL : base.get? L = none) (nY : base.get? Iy = none)
    (hn : s.heap.Ns L m) (hm : m "a" = some (.int a ta)) (iy : IsRangeIter s.heap Iy y (c - y) 1) (kb : KeepB base s.heap) (hyc : y < c)
    (h : ∀ (hp : Heap) (tk : Nat) (Ix : Addr) (p : Pos), (∀ b o, b ≠ L → b ≠ Iy → s.heap.get? b = some o → hp.get? b = some o) → (∀ b o, s.heap.get? b = some o → b < Ix) → At base L Iy Ix a c hp y 0 → Iy ≠ Ix →
      SegE (model prog w) A F (.forLoop (.Name "x" px) (.ref Ix) [yst r1 r2 r3 r4 r5 kk] [] env) ((model prog w).den (.forLoop (.Name "x" px) (.ref Ix) [yst r1 r2 r3 r4 r5 kk] [] env)) (fI env Iy py p px pf q1 q2 q3 r1 r2 r3 r4 r5 kk :: fsO) { s with heap := hp, toks := tk }) :
    SegE (model prog w) A F (.forLoop (.Name "y" py) (.ref Iy) [innS px pf q1 q2 q3 r1 r2 r3 r4 r5 kk] [] env) ((model prog w).den (.forLoop (.Name "y" py) (.ref Iy) [innS px pf q1 q2 q3 r1 r2 r3 r4 r5 kk] [] env)) fsO s := by
  have hpl : (env.scope.kind == .class || (env.scope.kind == .module && env.locals != env.globals)) = false := by
    rw [G.kind]; rfl
  have nLY := ns_iter hn iy
  refine se_turn rfl ?_
  refine wpAny_pyNext_range_item iy (by omega) fun h1 it1 sb1 => ?_
  have k1 : ∀ b o, b ≠ Iy → s.heap.get? b = some o → h1.get? b = some o := fun b o hb e => (sb1.2 b hb).trans e
  show wpAny _ _ (letOwnedTupleGo (.Name "y" py) (.ref Iy) (.int y s.toks)) _ _ _
  refine wpAny_pure ?_
  refine wpAny_assign_Name (wpAny_storeName_local (m := m) G.ky (by rw [G.loc]; exact hn.at' fun o e => k1 _ o nLY e) (fun h2 n4 sb2 => ?_) hpl)
  rw [G.loc] at n4 sb2
  have k2 : ∀ b o, b ≠ Iy → b ≠ L → s.heap.get? b = some o → h2.get? b = some o := fun b o hb hb2 e => (sb2.2 b hb2).trans (k1 b o hb e)
  have kb2 : KeepB base h2 := fun b o e => k2 b o (fun z => by rw [z, nY] at e; cases e) (fun z => by rw [z, nL] at e; cases e) (kb b o e)
  have iy2 : IsRangeIter h2 Iy (y + 1) (c - y - 1) 1 := (sb2.2 Iy (Ne.symm nLY)).trans it1
  have sz : h2.objs.size = s.heap.objs.size := (sb2.1.trans sb1.1)
  refine se_cons (se_for (range_go (m := fun z => if z = "y" then some (.int y s.toks) else m z) (n := a) (t := ta) G B G.ka n4 ((if_neg nay).trans hm) kb2 (by omega) ha2 (fun h3 tk k3 it3 => fun p => ?_)))
  have kb3 : KeepB base h3 := fun b o e => k3 b o (kb2 b o e)
  refine h h3 tk (h2.objs.size + 1) p (fun b o hb1 hb2 e => k3 b o (k2 b o hb2 hb1 e)) (fun b o e => by
    have := Heap.lt_size e
    rw [sz]
    exact Nat.lt_succ_of_lt this) ⟨⟨_, ta, s.toks, n4.keeps k3, (if_neg nay).trans hm, if_pos rfl⟩, ?_, ?_, kb3, nL, nY, ?_⟩ (fun z => Nat.lt_irrefl _ (Nat.lt_of_succ_lt (z ▸ Heap.lt_size iy2)))
  · have e : c - (y + 1) = c - y - 1 := by omega
    rw [e]
    exact k3 _ _ iy2
  · have e : a - 0 = a := by omega
    rw [e]
    exact it3
  · cases e : base.get? (h2.objs.size + 1) with
    | none => rfl
    | some o => exact absurd (Nat.lt_of_succ_lt (Heap.lt_size (kb2 _ _ e))) (Nat.lt_irrefl _)
theorem loops (hh : ∀ (cd : Code) (p : Pos), (A.over cd (fI env Iy py p px pf q1 q2 q3 r1 r2 r3 r4 r5 kk :: fsO)).handled = none) (hO : ∀ cd : Code, (A.over cd fsO).handled = none) (hsp : splitAtGen fsO = none) (hgd : fsO.any Frame.guarded = false)
    (hend : ∀ (F : End → Shared → Prop) (s : Shared), F (.ret (.ok (.ret .none))) s → SegE (model prog w) A F (.block [] env) (.pure (.done .next)) fsO s)
    (G : GEnv env L) (B : BaseR base) (ha : 0 < a) (ha2 : a < 2 ^ 62) (nL : base.get? L = none) (nY : base.get? Iy = none) :
    ∀ (n : Nat) (y x : Int) (Ix : Addr) (s₀ s : Shared) (own : List Addr) (p : Pos), 0 ≤ x → x ≤ a → 0 ≤ y → y < c → (n : Int) = (a - x) + (c - 1 - y) * a → Wrote own s₀ s → L ∈ own → (∀ o, s₀.heap.get? Iy = some o → Iy ∈ own) → (Iy ∈ own ∨ Newer own s₀ Iy) → (∀ o, s₀.heap.get? Ix = some o → Ix ∈ own) → (Ix ∈ own ∨ Newer own s₀ Ix) →
      At base L Iy Ix a c s.heap y x → Iy ≠ Ix →
      SegE (model prog w) A (EndOk (model prog w) A base a c n own s₀) (.forLoop (.Name "x" px) (.ref Ix) [yst r1 r2 r3 r4 r5 kk] [] env) ((model prog w).den (.forLoop (.Name "x" px) (.ref Ix) [yst r1 r2 r3 r4 r5 kk] [] env)) (fI env Iy py p px pf q1 q2 q3 r1 r2 r3 r4 r5 kk :: fsO) s := by
  have hpl : (env.scope.kind == .class || (env.scope.kind == .module && env.locals != env.globals)) = false := by
    rw [G.kind]; rfl
  have hi : interactive env = false := by simp [interactive, G.kind]
  intro n
  induction n with
  | zero =>
    intro y x Ix s₀ s own p hx hxa hy hyc hn hW hL hY hY2 hIx hIn at_ ne
    have hz : 0 ≤ (c - 1 - y) * a := Int.mul_nonneg (by omega) (by omega)
    have hxe : x = a := by omega
    have hye : c - 1 - y = 0 := by
      rcases Int.lt_or_le (c - 1 - y) 1 with q | q
      · omega
      · have := Int.mul_le_mul_of_nonneg_right q (show 0 ≤ a by omega)
        omega
    subst hxe
    refine rowEnd hh at_ fun h1 k1 => ?_
    refine se_turn rfl ?_
    refine wpAny_pyNext_range_end (hO _) (k1 _ _ ne at_.iy) (by omega) fun h2 eb => ?_
    refine hend _ _ ⟨.inl rfl, ?_⟩
    exact hW.step fun b o hb e e' => eb b o (fun z => hb (by rw [z]; exact hY o (by rw [← z]; exact e))) (k1 b o (fun z => hb (by rw [z]; exact hIx o (by rw [← z]; exact e))) e')
  | succ m ih =>
    -- the step at x < a
    have step : ∀ (y x : Int) (Ix : Addr) (s₀ s : Shared) (own : List Addr) (p : Pos), 0 ≤ x → x < a → 0 ≤ y → y < c → ((m + 1 : Nat) : Int) = (a - x) + (c - 1 - y) * a → Wrote own s₀ s → L ∈ own → (∀ o, s₀.heap.get? Iy = some o → Iy ∈ own) → (Iy ∈ own ∨ Newer own s₀ Iy) → (∀ o, s₀.heap.get? Ix = some o → Ix ∈ own) → (Ix ∈ own ∨ Newer own s₀ Ix) →
      At base L Iy Ix a c s.heap y x → Iy ≠ Ix →
      SegE (model prog w) A (EndOk (model prog w) A base a c (m + 1) own s₀) (.forLoop (.Name "x" px) (.ref Ix) [yst r1 r2 r3 r4 r5 kk] [] env) ((model prog w).den (.forLoop (.Name "x" px) (.ref Ix) [yst r1 r2 r3 r4 r5 kk] [] env)) (fI env Iy py p px pf q1 q2 q3 r1 r2 r3 r4 r5 kk :: fsO) s := by
      intro y x Ix s₀ s own p hx hxa hy hyc hn hW hL hY hY2 hIx hIn at_ ne
      obtain ⟨⟨mm, ta, ty, n1, n2, n3⟩, i1, i2, kb, _, _, nX⟩ := at_
      have nLX := ns_iter n1 i2
      have nLY := ns_iter n1 i1
      refine se_turn rfl ?_
      refine wpAny_pyNext_range_item i2 (by omega) fun h1 it1 sb1 => ?_
      have k1 : ∀ b o, b ≠ Ix → s.heap.get? b = some o → h1.get? b = some o := fun b o hb e => (sb1.2 b hb).trans e
      show wpAny _ _ (letOwnedTupleGo (.Name "x" px) (.ref Ix) (.int x s.toks)) _ _ _
      refine wpAny_pure ?_
      refine wpAny_assign_Name (wpAny_storeName_local (m := mm) G.kx (by rw [G.loc]; exact n1.at' fun o e => k1 _ o nLX e) (fun h2 n4 sb2 => ?_) hpl)
      rw [G.loc] at n4 sb2
      have k2 : ∀ b o, b ≠ Ix → b ≠ L → s.heap.get? b = some o → h2.get? b = some o := fun b o hb hb2 e => (sb2.2 b hb2).trans (k1 b o hb e)
      have W2 : Wrote own s₀ { s with heap := h2, toks := s.toks + 1 + 1 } := hW.step fun b o hb e e' => k2 b o (fun z => hb (hIx o (by rw [← z]; exact e) |> fun q => by rw [z]; exact q)) (fun z => hb (by rw [z]; exact hL)) e'
      refine se_cons (se_yieldS (show splitAtGen (_ :: fsO) = none by show (splitAtGen fsO).map _ = none; rw [hsp]; rfl) G.co hi ?_)
      refine wpAny_Tuple_spliced ?_
      show wpAny _ _ (spliced ((false, eval (.Name "x" r1) env) :: backTo r3 (starEach [.Name "y" r2] env))) _ _ _
      refine Calls.spliced_cons (wpAny_Name (wpAny_loadName_local (v := .int x s.toks) G.kind G.kx (by rw [G.loc]; exact n4) (by simp) ?_) (by decide))
      show wpAny _ _ (spliced ((false, eval (.Name "y" r2) env) :: backTo r3 (starEach [] env))) _ _ _
      refine Calls.spliced_cons (wpAny_Name (wpAny_loadName_local (v := .int y ty) G.kind G.ky (by rw [G.loc]; exact n4) ((if_neg nyx).trans n3) ?_) (by decide))
      refine Calls.spliced_nil ⟨by show 2 ≤ sizeLine; decide, ?_⟩
      intro pp k hk
      have it2 : IsRangeIter h2 Ix (x + 1) (a - x - 1) 1 := (sb2.2 Ix (Ne.symm nLX)).trans it1
      have iy2 : IsRangeIter h2 Iy (y + 1) (c - (y + 1)) 1 := k2 Iy _ ne (Ne.symm nLY) i1
      have kp : ∀ b o, h2.get? b = some o → (h2.push { cls := .type "tuple", data := .seq [Value.int x s.toks, Value.int y ty].toArray }).get? b = some o := fun b o e => Heap.get?_push_of_some _ e
      have n5 : (h2.push { cls := .type "tuple", data := .seq [Value.int x s.toks, Value.int y ty].toArray }).Ns L (fun z => if z = "x" then some (.int x s.toks) else mm z) := n4.keeps kp
      refine ⟨?_, rfl, x, y, h2.objs.size, [L, Iy, Ix], s.toks, ty, rfl, hx, hxa, hy, hyc, by omega, W2.step fun b o hb e e' => kp b o e', W2.newer, Heap.get?_push_size _ rfl, ?_, ?_, ?_, ?_⟩
      · show (!((id false) || (_ || fsO.any Frame.guarded))) = true
        rw [hgd]; rfl
      · intro hm
        rcases List.mem_cons.mp hm with z | hm
        · exact Nat.lt_irrefl _ (z ▸ n4.lt)
        · rcases List.mem_cons.mp hm with z | hm
          · exact Nat.lt_irrefl _ (z ▸ Heap.lt_size iy2)
          · exact Nat.lt_irrefl _ ((List.mem_singleton.mp hm) ▸ Heap.lt_size it2)
      · intro b hb
        rcases List.mem_cons.mp hb with z | hb
        · exact .inl (z ▸ hL)
        · rcases List.mem_cons.mp hb with z | hb
          · rw [z]; exact hY2
          · rw [List.mem_singleton.mp hb]; exact hIn
      · intro b hb
        rcases List.mem_cons.mp hb with z | hb
        · rw [z]
          obtain ⟨o, es, ep, e, d, _⟩ := n5
          exact ⟨nL, o, e, fun v q => by rw [d] at q; cases q⟩
        · rcases List.mem_cons.mp hb with z | hb
          · rw [z]
            exact ⟨nY, _, kp _ _ iy2, fun v q => by cases q⟩
          · rw [List.mem_singleton.mp hb]
            exact ⟨nX, _, kp _ _ it2, fun v q => by cases q⟩
      · rw [gw_iff]
        intro s4 hk4 kb4
        show SegE _ _ _ _ (k (.send .none)) _ s4
        refine hk _ s4 ?_
        show SegE _ _ _ _ (.pure (.again (.forLoop (.Name "x" px) (.ref Ix) [yst r1 r2 r3 r4 r5 kk] [] env))) _ s4
        refine se_again rfl ?_
        have xL := hk4 L List.mem_cons_self
        have xY := hk4 Iy (List.mem_cons_of_mem _ List.mem_cons_self)
        have xX := hk4 Ix (List.mem_cons_of_mem _ (List.mem_cons_of_mem _ List.mem_cons_self))
        refine ih y (x + 1) Ix s4 s4 [L, Iy, Ix] p (by omega) (by omega) hy hyc (by omega) (Wrote.refl _ _) (by simp) (fun _ _ => by simp) (.inl (by simp)) (fun _ _ => by simp) (.inl (by simp)) ⟨⟨_, ta, ty, n5.at' xL, (if_neg nax).trans n2, (if_neg nyx).trans n3⟩, xY _ (kp _ _ iy2), ?_, kb4, nL, nY, nX⟩ ne
        have e : a - (x + 1) = a - x - 1 := by omega
        rw [e]
        exact xX _ (kp _ _ it2)
    intro y x Ix s₀ s own p hx hxa hy hyc hn hW hL hY hY2 hIx hIn at_ ne
    by_cases hlt : x < a
    · exact step y x Ix s₀ s own p hx hlt hy hyc hn hW hL hY hY2 hIx hIn at_ ne
    · have hxe : x = a := by omega
      subst hxe
      have hye : y + 1 < c := by
        rcases Int.lt_or_le (y + 1) c with q | q
        · exact q
        · have e : c - 1 - y = 0 := by omega
          rw [e] at hn
          omega
      have hn2 : ((m + 1 : Nat) : Int) = (x - 0) + (c - 1 - (y + 1)) * x := by
        have e : (c - 1 - y) * x = (c - 1 - (y + 1)) * x + x := by
          rw [show c - 1 - y = (c - 1 - (y + 1)) + 1 by omega, Int.add_mul, Int.one_mul]
        omega
      obtain ⟨⟨mm, ta, ty, n1, n2, n3⟩, i1, i2, kb, _, _, nX⟩ := id at_
      have nLX := ns_iter n1 i2
      refine rowEnd hh at_ fun h1 k1 => ?_
      refine rowNext G B ha ha2 nL nY (n1.at' fun o e => k1 _ o nLX e) n2 (k1 _ _ ne i1) (fun b o e => k1 b o (fun z => by rw [z, nX] at e; cases e) (kb b o e)) hye fun h3 tk Ix2 p2 k3 hlt2 at2 ne2 => ?_
      have W1 : Wrote own s₀ { s with heap := h1 } := hW.step (tk := s.toks) fun b o hb e e' => k1 b o (fun z => hb (by rw [z]; exact hIx o (by rw [← z]; exact e))) e'
      have W3 : Wrote own s₀ { s with heap := h3, toks := tk } := W1.step fun b o hb e e' => k3 b o (fun z => hb (z ▸ hL)) (fun z => hb (by rw [z]; exact hY o (by rw [← z]; exact e))) e'
      have new2 : Newer own s₀ Ix2 := fun b o hb e => by
        obtain ⟨hx1, tx1, ex1, kx1⟩ := W1
        have e1 := kx1 b o hb e
        have e2 : h1 = hx1 := congrArg Shared.heap ex1
        rw [← e2] at e1
        exact hlt2 b o e1
      refine step (y + 1) 0 Ix2 s₀ _ own p2 (by omega) ha (by omega) hye hn2 W3 hL hY hY2 (fun o e => ?_) (.inr new2) at2 ne2
      by_cases hb : Ix2 ∈ own
      · exact hb
      · exact absurd (new2 Ix2 o hb e) (Nat.lt_irrefl _)
end
end Gf
end
section
set_option maxHeartbeats 4000000
/-! Net.cell, called and first woken. -/
namespace Gf
open PySem PySem.Spec PyProof.Rows
section
variable {prog : Program} {w : World} {A : Around} {env : Env} {L : Addr} {base : Heap} {a b c : Int} {s : Shared} {E : Value → Shared → Prop} {K : PySem.W.Frag}
theorem tri {env : Env} {m : Str → Option Value} {va vb vc : Value} {Q : Unit → Shared → Prop} {p1 p2 p3 : Pos} (G : GEnv env L) (kb : env.kindOf "b" = some .local) (hn : s.heap.Ns L m)
    (h : ∀ (hp : Heap) (tk : Nat), (∀ b o, b ≠ L → s.heap.get? b = some o → hp.get? b = some o) → hp.Ns L (fun z => if z = "c" then some vc else if z = "b" then some vb else if z = "a" then some va else m z) → Q () { s with heap := hp, toks := tk }) :
    wpAny (model prog w) A (assignInOrder ((assignEach [.Name "a" p1, .Name "b" p2, .Name "c" p3] env).map (·.2)) [va, vb, vc]) Q E s := by
  have hpl : (env.scope.kind == .class || (env.scope.kind == .module && env.locals != env.globals)) = false := by
    rw [G.kind]; rfl
  show wpAny _ _ (assignInOrder [assign (.Name "a" p1) env, assign (.Name "b" p2) env, assign (.Name "c" p3) env] [va, vb, vc]) _ _ _
  refine assignInOrder_cons (wpAny_assign_Name (wpAny_storeName_local (m := m) G.ka (by rw [G.loc]; exact hn) (fun h1 n1 sb1 => ?_) hpl))
  rw [G.loc] at n1 sb1
  refine assignInOrder_cons (wpAny_assign_Name (wpAny_storeName_local kb (by rw [G.loc]; exact n1) (fun h2 n2 sb2 => ?_) hpl))
  rw [G.loc] at n2 sb2
  refine assignInOrder_cons (wpAny_assign_Name (wpAny_storeName_local G.kc (by rw [G.loc]; exact n2) (fun h3 n3 sb3 => ?_) hpl))
  rw [G.loc] at n3 sb3
  exact assignInOrder_nil (h h3 _ (fun b o hb e => (sb3.2 b hb).trans ((sb2.2 b hb).trans ((sb1.2 b hb).trans e))) n3)
/-- a, b, c = self.own_numbers -/
theorem unpack3 {m mA : Str → Option Value} {n dn C q : Addr} {va vb vc : Value} {Q : Flow → Shared → Prop} {p1 p2 p3 p4 p5 p6 p7 : Pos} {kk : Nat} (G : GEnv env L) (kb : env.kindOf "b" = some .local) (ks : env.kindOf "self" = some .local) (hh : A.handled = none)
    (X : K.In s.heap) (I : L2.ObjM s.heap n dn C mA) (cl : L2.Cls K C) (na : L2.NoAttr K C "own_numbers") (hv : mA "own_numbers" = some (.ref q)) (ht : IsTup s.heap q #[va, vb, vc]) (hn : s.heap.Ns L m) (hm : m "self" = some (.ref n))
    (h : ∀ (hp : Heap) (tk : Nat), (∀ b o, b ≠ L → s.heap.get? b = some o → hp.get? b = some o) → hp.Ns L (fun z => if z = "c" then some vc else if z = "b" then some vb else if z = "a" then some va else m z) → Q .next { s with heap := hp, toks := tk }) :
    wpAny (model prog w) A (exec (.Assign [.Tuple [.Name "a" p1, .Name "b" p2, .Name "c" p3] kk p4] (.Attribute (.Name "self" p5) "own_numbers" p6) p7) env) Q E s := by
  refine wpAny_Assign_stores (L2.attr_of rfl (wpAny_Name (wpAny_loadName_local G.kind ks (by rw [G.loc]; exact hn) hm ?_) (by decide))) rfl rfl
  refine L2.get_map X I (cl.get _) cl.hd na hv rfl ?_
  show wpAny _ _ (assign (.Tuple [.Name "a" p1, .Name "b" p2, .Name "c" p3] kk p4) env (.ref q)) _ _ _
  refine assign_Tuple_tuple (s := { s with toks := s.toks + 1 }) hh ht rfl rfl fun h1 eb => ?_
  have k1 : ∀ b o, s.heap.get? b = some o → h1.get? b = some o := fun b o e => eb b o (Nat.ne_of_lt (Heap.lt_size e)) e
  exact tri G kb (hn.keeps k1) fun hp tk k2 n2 => h hp tk (fun b o hb e => k2 b o hb (k1 b o e)) n2
abbrev bodyC (p1 p2 p3 p4 p5 p6 p7 g1 g2 g3 py pg px pf q1 q2 q3 r1 r2 r3 r4 r5 : Pos) (k1 kk : Nat) : List Stmt :=
  [.Assign [.Tuple [.Name "a" p1, .Name "b" p2, .Name "c" p3] k1 p4] (.Attribute (.Name "self" p5) "own_numbers" p6) p7, .For (.Name "y" py) (.Call (.Name "range" g1) [.Name "c" g2] [] g3) [innS px pf q1 q2 q3 r1 r2 r3 r4 r5 kk] [] pg]
theorem nac : ¬ (("a" : Str) = "c") := by decide +kernel
theorem nab : ¬ (("a" : Str) = "b") := by decide +kernel
/-- a generator that has not begun: woken while all stands as it stood, it comes to its first place -/
theorem fresh_ok {p1 p2 p3 p4 p5 p6 p7 g1 g2 g3 py pg px pf q1 q2 q3 r1 r2 r3 r4 r5 : Pos} {k1 kk : Nat} {h : Heap} {m mA : Str → Option Value} {n dn C q : Addr} {ta tb tc : Tok} (G : GEnv env L) (kb : env.kindOf "b" = some .local) (ks : env.kindOf "self" = some .local) (hA : A.handled = none)
    (KX : K.In base) (B : BaseR base) (cl : L2.Cls K C) (na : L2.NoAttr K C "own_numbers") (nL : base.get? L = none) (ha : 0 < a) (ha2 : a < 2 ^ 62) (hc : 0 < c) (hc2 : c < 2 ^ 62) (kbh : KeepB base h)
    (I : L2.ObjM h n dn C mA) (hv : mA "own_numbers" = some (.ref q)) (ht : IsTup h q #[.int a ta, .int b tb, .int c tc]) (hn : h.Ns L m) (hm : m "self" = some (.ref n)) (s : Shared) (kp : ∀ b o, h.get? b = some o → s.heap.get? b = some o) :
    SegE (model prog w) A (EndOk (model prog w) A base a c (a * c).toNat [L] s) (.func (bodyC p1 p2 p3 p4 p5 p6 p7 g1 g2 g3 py pg px pf q1 q2 q3 r1 r2 r3 r4 r5 k1 kk) env)
      ((model prog w).den (.func (bodyC p1 p2 p3 p4 p5 p6 p7 g1 g2 g3 py pg px pf q1 q2 q3 r1 r2 r3 r4 r5 k1 kk) env)) [] s := by
  have kbs : KeepB base s.heap := fun b o e => kp b o (kbh b o e)
  refine se_func (se_cons (se_wrap ?_))
  refine wpAny_mono (unpack3 (m := m) (mA := mA) (K := K) (E := fun _ _ => False) (Q := fun f s1 => f = .next ∧ ∃ (hp : Heap) (tk : Nat), s1 = { s with heap := hp, toks := tk } ∧ (∀ b o, b ≠ L → s.heap.get? b = some o → hp.get? b = some o) ∧ hp.Ns L (fun z => if z = "c" then some (.int c tc) else if z = "b" then some (.int b tb) else if z = "a" then some (.int a ta) else m z)) G kb ks hA (KX.keeps kbs) ⟨kp _ _ I.obj, I.ns.at fun o e => kp _ _ e, I.ne⟩ cl na hv (ht.keeps kp) (hn.keeps kp) hm (fun hp tk k2 n2 => ⟨rfl, hp, tk, rfl, k2, n2⟩)) (fun f s1 hf => ?_) fun _ _ z => z.elim
  obtain ⟨rfl, h1, tk1, rfl, k1', n1⟩ := hf
  have kb1 : KeepB base h1 := fun b o e => k1' b o (fun z => by rw [z, nL] at e; cases e) (kbs b o e)
  refine se_cons (se_for (range_go G B G.kc n1 (if_pos rfl) kb1 (by omega) hc2 fun h2 tk2 k2 it2 => fun p => ?_))
  have kb2 : KeepB base h2 := fun b o e => k2 b o (kb1 b o e)
  have W1 : Wrote [L] s { s with heap := h1, toks := tk1 } := ⟨h1, tk1, rfl, fun b o hb e => k1' b o (fun z => hb (by simp [z])) e⟩
  have nY : base.get? (h1.objs.size + 1) = none := by
    cases e : base.get? (h1.objs.size + 1) with
    | none => rfl
    | some o => exact absurd (Nat.lt_of_succ_lt (Heap.lt_size (kb1 _ _ e))) (Nat.lt_irrefl _)
  have newY : Newer [L] s (h1.objs.size + 1) := fun b o hb e => Nat.lt_succ_of_lt (W1.newer b o hb e)
  have W2 : Wrote [L] s { s with heap := h2, toks := tk2 } := W1.step fun b o _ _ e => k2 b o e
  have n2 := n1.keeps k2
  refine rowNext (ta := ta) G B ha ha2 nL nY n2 ((if_neg nac).trans ((if_neg nab).trans (if_pos rfl))) (by rw [show c - 0 = c by omega]; exact it2) kb2 hc fun h3 tk3 Ix p3 k3 lt3 at3 ne3 => ?_
  have W3 : Wrote [L] s { s with heap := h3, toks := tk3 } := W2.step fun b o hb e e' => k3 b o (fun z => hb (by simp [z])) (fun z => by
    have := newY b o hb e
    exact Nat.lt_irrefl _ (z ▸ this)) e'
  have newX : Newer [L] s Ix := fun b o hb e => lt3 b o (k2 b o (k1' b o (fun z => hb (by simp [z])) e))
  have old : ∀ {J : Addr}, Newer [L] s J → ∀ o, s.heap.get? J = some o → J ∈ [L] := fun {J} nw o e => by
    by_cases hb : J ∈ [L]
    · exact hb
    · exact absurd (nw J o hb e) (Nat.lt_irrefl _)
  have hpos : 0 ≤ a * c := Int.mul_nonneg (by omega) (by omega)
  have hcnt : (((a * c).toNat : Nat) : Int) = (a - 0) + (c - 1 - 0) * a := by
    rw [Int.toNat_of_nonneg hpos, show c - 1 - 0 = c - 1 by omega, Int.sub_mul, Int.one_mul, Int.mul_comm c a]
    omega
  refine loops (fun cd p => ?_) (fun cd => ?_) rfl rfl (fun F s1 hF => ?_) G B ha ha2 nL nY (a * c).toNat 0 0 Ix s _ [L] p3 (by omega) (by omega) (by omega) hc hcnt W3 (by simp) (old newY) (.inr newY) (old newX) (.inr newX) at3 ne3
  · show A.handled = none
    exact hA
  · show A.handled = none
    exact hA
  · show SegE _ _ _ _ (leafOf (.ok .next)) _ _
    refine se_leaf (.ok .next) ?_
    show SegE _ _ _ _ (leafOf (.ok (.ret .none))) _ _
    exact se_end (.ok (.ret .none)) hF
end
end Gf
end
section
set_option maxHeartbeats 4000000
/-! next of such a generator. -/
namespace Gf
open PySem PySem.Spec PyProof.Rows
section
variable {M : Model} {A : Around} {F : End → Shared → Prop} {s : Shared} {g : Nat} {gs : GenState}
theorem resume_se {α : Type} {l : List Value} {k : GenResult → Sem α} {Q : α → Shared → Prop} {E : Value → Shared → Prop} (hg : s.gens[g]? = some gs) (hgo : Going M A gs F (s.setGen g .running)) (hq : ∀ e s1, F e s1 → e.quiet = true)
    (h : ∀ e s1, F e s1 → wpAny M A (k e.result) Q E (s1.setGen g e.genState)) : wpAny M A (.resume g (.send .none) l k) Q E s := by
  intro Γ p hΓ
  rw [Sem.wp_resume]
  cases gs with
  | fresh cd =>
    obtain ⟨e, s1, hr, he⟩ := hgo (Γ.wake cd p) p rfl (hΓ.wake cd p)
    refine ⟨_, _, ?_, h e s1 he Γ p hΓ⟩
    unfold Wakes
    rw [hg]
    exact ⟨e, s1, hr, hq e s1 he, rfl, rfl⟩
  | suspended k0 l0 c0 p0 fs0 cl0 =>
    obtain ⟨e, s1, hr, he⟩ := hgo (Γ.wake c0 p) p0 rfl (hΓ.wake c0 p)
    refine ⟨_, _, ?_, h e s1 he Γ p hΓ⟩
    unfold Wakes
    rw [hg]
    exact ⟨e, s1, hr, hq e s1 he, rfl, rfl⟩
  | running => exact hgo.elim
  | finished => exact hgo.elim
end
section
variable {prog : Program} {w : World} {A : Around} {E : Value → Shared → Prop} {s : Shared} {base : Heap} {a c : Int} {ga : Addr} {g : Nat} {gs : GenState} {own : List Addr}
theorem next_se {F : End → Shared → Prop} {Q : Option Value → Shared → Prop} (hh : A.handled = none) (hl : s.heap.NoLimit) (hroom : A.depth < recursionLimit) (isg : s.heap.IsGen ga g) (hgs : s.gens[g]? = some gs)
    (hgo : Going (model prog w) A.in1 gs F (s.setGen g .running)) (hq : ∀ e s1, F e s1 → e.quiet = true)
    (h : ∀ e s1, F e s1 → (∃ v, e.result = .yielded v ∧ Q (some v) (s1.setGen g e.genState)) ∨
      (e.result = .returned .none ∧ e.genState = .finished ∧ ∀ hp, (∀ b o, s1.heap.get? b = some o → hp.get? b = some o) → Q none { s1.setGen g .finished with heap := hp })) : wpAny (model prog w) A (pyNext (.ref ga)) Q E s := by
  unfold pyNext
  refine wpAny_bind (wpAny_attempt (wpAny_callSpecial?_slot (name := Str.ofString "__next__") isg.typeIs slot_gen_next (wpAny_call_entry slot_gen_next isg.typeIs entry_gen_next ?_ (args_gen_next _))))
  show wpAny _ A.in1 (Builtin.Generator.genWake (.ref ga) (.send .none)) _ _ s
  unfold Builtin.Generator.genWake
  refine wpAny_bind (wpAny_holding (wpAny_genNumber isg (wpAny_bind (wpAny_genState hgs ?_))))
  cases gs with
  | running => exact hgo.elim
  | finished => exact hgo.elim
  | _ =>
    refine wpAny_bind (wpAny_roomToWake hl hroom ?_)
    show wpAny _ A.in1 (.resume g (.send .none) [] _) _ _ s
    refine resume_se hgs hgo hq fun e s1 he => ?_
    rcases h e s1 he with ⟨v, hr, hv⟩ | ⟨hr, hf, hv⟩
    · rw [hr]
      exact wpAny_pure ⟨v, rfl, wpAny_pure hv⟩
    · rw [hr, hf]
      show wpAny _ A.in1 (newExc (.type "StopIteration") [] >>= _) _ _ _
      refine wpAny_bind ?_
      simp only [newExc, newTuple]
      refine wpAny_bind (wpAny_newObj_type ?_ (by size_fits))
      refine wpAny_bind (m := firstArgMember _ _) (wpAny_of_eq (a := Value.none) (by first | rfl | (simp only [firstArgMember]; rfl)) ?_)
      refine wpAny_newObj_type ?_ (by size_fits)
      simp only [raiseNew]
      refine wpAny_bind (wpAny_bind (wpAny_handled ?_))
      first | rw [show A.in1.handled = none from hh] | rw [hh]
      refine wpAny_throw ?_
      refine wpAny_bind (wpAny_isInstance (T := "StopIteration") (b := true) ⟨_, Heap.get?_push_size _ rfl, rfl⟩ isSubtype_stop ?_)
      exact wpAny_pure (hv _ fun b o hb => Heap.get?_push_of_some _ (Heap.get?_push_of_some _ hb))
theorem cell_next {m : Nat} {Q : Option Value → Shared → Prop} (hh : A.handled = none) (hl : s.heap.NoLimit) (hroom : A.depth < recursionLimit) (isg : s.heap.IsGen ga g) (hgs : s.gens[g]? = some gs)
    (hgo : Going (model prog w) A.in1 gs (EndOk (model prog w) A.in1 base a c (m + 1) own (s.setGen g .running)) (s.setGen g .running))
    (q : ∀ (x y : Int) (t : Addr) (own' : List Addr) (tx ty : Tok) (h : Heap) (tk : Nat) (gs' : GenState), 0 ≤ x → x < a → 0 ≤ y → y < c → (m : Int) = (a - 1 - x) + (c - 1 - y) * a → (∀ b o, b ∉ own → s.heap.get? b = some o → h.get? b = some o) →
      (∀ b o, b ∉ own → s.heap.get? b = some o → b < t) → h.get? t = some { cls := .type "tuple", data := .seq #[.int x tx, .int y ty] } → t ∉ own' → (∀ b ∈ own', b ∈ own ∨ ∀ d o, d ∉ own → s.heap.get? d = some o → d < b) → (∀ b ∈ own', Mine base h b) →
      asleep gs' = true → gs'.bare = true → GW (model prog w) A.in1 base a c m gs' own' h → Q (some (.ref t)) { s.setGen g gs' with heap := h, toks := tk }) : wpAny (model prog w) A (pyNext (.ref ga)) Q E s := by
  refine next_se hh hl hroom isg hgs hgo (fun e s1 he => he.1) fun e s1 he => .inl ?_
  obtain ⟨hq, has, x, y, t, own', tx, ty, hr, h1, h2, h3, h4, h5, ⟨hp, tk, rfl, hk⟩, hnew, ht, hto, hown, hmine, hgw⟩ := he
  refine ⟨.ref t, hr, ?_⟩
  have hb : e.genState.bare = true := End.bare_of_quiet hq
  have z := q x y t own' tx ty hp tk e.genState h1 h2 h3 h4 h5 hk hnew ht hto hown hmine has hb hgw
  have es : ({ s.setGen g .running with heap := hp, toks := tk } : Shared).setGen g e.genState = { s.setGen g e.genState with heap := hp, toks := tk } := by
    show ({ s with heap := hp, toks := tk, gens := (s.gens.setIfInBounds g .running).setIfInBounds g e.genState } : Shared) = { s with heap := hp, toks := tk, gens := s.gens.setIfInBounds g e.genState }
    rw [Array.setIfInBounds_setIfInBounds]
  rw [es]
  exact z
theorem cell_stop {Q : Option Value → Shared → Prop} (hh : A.handled = none) (hl : s.heap.NoLimit) (hroom : A.depth < recursionLimit) (isg : s.heap.IsGen ga g) (hgs : s.gens[g]? = some gs)
    (hgo : Going (model prog w) A.in1 gs (EndOk (model prog w) A.in1 base a c 0 own (s.setGen g .running)) (s.setGen g .running))
    (q : ∀ (h : Heap) (tk : Nat), (∀ b o, b ∉ own → s.heap.get? b = some o → h.get? b = some o) → Q none { s.setGen g .finished with heap := h, toks := tk }) : wpAny (model prog w) A (pyNext (.ref ga)) Q E s := by
  refine next_se hh hl hroom isg hgs hgo (fun e s1 he => ?_) fun e s1 he => .inr ?_
  · rcases he.1 with z | z <;> rw [z] <;> rfl
  · obtain ⟨hr, hp, tk, rfl, hk⟩ := he
    refine ⟨by rcases hr with z | z <;> rw [z] <;> rfl, by rcases hr with z | z <;> rw [z] <;> rfl, fun h2 k2 => ?_⟩
    have z := q h2 tk fun b o hb e => k2 b o (hk b o hb e)
    have es : ({ ({ s.setGen g .running with heap := hp, toks := tk } : Shared).setGen g .finished with heap := h2 } : Shared) = { s.setGen g .finished with heap := h2, toks := tk } := by
      show ({ s with heap := h2, toks := tk, gens := (s.gens.setIfInBounds g .running).setIfInBounds g .finished } : Shared) = { s with heap := h2, toks := tk, gens := s.gens.setIfInBounds g .finished }
      rw [Array.setIfInBounds_setIfInBounds]
    rw [es]
    exact z
end
end Gf
end
section
set_option maxHeartbeats 4000000
/-! A walk over Net.cell(): what every loop over it rests on. -/
namespace Gf
open PySem PySem.Spec PyProof.Rows L2
section
variable {X : Cx} {pins : List (Addr × Obj)} {σ : L2.St} {H : Hp} {s : Shared} {ga : Addr} {g : Nat} {a c : Int} {own : List Addr}
theorem regen {G : Array GenState} (I : Inv X pins σ H s) (hG : AllBare G) : Inv X pins σ H { s with gens := G } :=
  ⟨I.ok, I.os, hG, I.base, I.loc, I.cell, I.free, I.freeC, I.pin, I.hok, I.len⟩
theorem numb_inv (I : Inv X pins σ H s) : Inv X pins σ H (numb s) := regen I fun y hy => by
  obtain ⟨x, hx, rfl⟩ := Array.mem_map.mp hy
  rw [poison_bare]
  exact I.bare x hx
theorem woke_inv {r s' r' : Shared} (h : Woke r s' r') (I : Inv X pins σ H s') : Inv X pins σ H r' := by
  rw [h.rest]
  exact regen I (h.bare I.bare)
/-- the records are ours and are no cells -/
structure Ours (X : Cx) (pins : List (Addr × Obj)) (H : Hp) (h : Heap) (own : List Addr) : Prop where
  fp : ∀ b ∈ own, FpOk X pins H b
  mine : ∀ b ∈ own, Mine X.base h b
/-- the generator at ga stands; n places are to come -/
def CellSt (X : Cx) (ga : Addr) (g : Nat) (a c : Int) (n : Nat) (own : List Addr) (s : Shared) : Prop :=
  s.heap.IsGen ga g ∧ ga ∉ own ∧ ∃ gs, s.gens[g]? = some gs ∧ Going (model X.prog X.w) X.A.in1 gs (EndOk (model X.prog X.w) X.A.in1 X.base a c n own (s.setGen g .running)) (s.setGen g .running)
/-- .. asleep behind a turn -/
def CellZ (X : Cx) (ga : Addr) (g : Nat) (a c : Int) (n : Nat) (own : List Addr) (h : Heap) (s : Shared) : Prop :=
  h.IsGen ga g ∧ ga ∉ own ∧ ∃ gs, s.gens[g]? = some gs ∧ asleep gs = true ∧ GW (model X.prog X.w) X.A.in1 X.base a c n gs own h
theorem CellZ.woke {n : Nat} {h : Heap} {r s' r' : Shared} (z : CellZ X ga g a c n own h r) (w : Woke r s' r') : CellZ X ga g a c n own h r' := by
  obtain ⟨z1, z2, gs, z3, z4, z5⟩ := z
  exact ⟨z1, z2, gs, w.kept g gs z3 z4, z4, z5⟩
theorem Going.mono {M : Model} {A : Around} {gs : GenState} {F F' : End → Shared → Prop} {s : Shared} (h : Going M A gs F s) (k : ∀ e s, F e s → F' e s) : Going M A gs F' s := by
  cases gs with
  | fresh cd => exact fun Γ p hc hΓ => let ⟨e, s', h1, h2⟩ := h Γ p hc hΓ; ⟨e, s', h1, k _ _ h2⟩
  | suspended k0 l0 c0 p0 fs0 cl0 => exact fun Γ p hc hΓ => let ⟨e, s', h1, h2⟩ := h Γ p hc hΓ; ⟨e, s', h1, k _ _ h2⟩
  | running => exact h
  | finished => exact h
theorem CellZ.st {n : Nat} {h : Heap} (z : CellZ X ga g a c n own h s) (kg : ∀ o, h.get? ga = some o → s.heap.get? ga = some o) (ko : ∀ b ∈ own, ∀ o, h.get? b = some o → s.heap.get? b = some o) (kb : KeepB X.base s.heap) : CellSt X ga g a c n own s := by
  obtain ⟨⟨o, nm, qn, e1, e2⟩, z2, gs, z3, z4, z5⟩ := z
  exact ⟨⟨o, nm, qn, kg o e1, e2⟩, z2, gs, z3, gw_iff.mp z5 (s.setGen g .running) ko kb⟩
/-- a turn -/
theorem cell_turn {m : Nat} {E : Value → Shared → Prop} (hc : X.calm = true) (hroom : X.A.depth < recursionLimit) (I : Inv X pins σ H s) (C : CellSt X ga g a c (m + 1) own s) (O : Ours X pins H s.heap (ga :: own)) :
    wpAny (model X.prog X.w) X.A (pyNext (.ref ga)) (fun r s1 => ∃ (t : Addr) (x y : Int) (own' : List Addr), r = some (.ref t) ∧ 0 ≤ x ∧ x < a ∧ 0 ≤ y ∧ y < c ∧ (m : Int) = (a - 1 - x) + (c - 1 - y) * a ∧ H t = none ∧
      Inv X pins σ (upd H t (.tup [.int x, .int y])) s1 ∧ Ours X pins (upd H t (.tup [.int x, .int y])) s1.heap (ga :: own') ∧ CellZ X ga g a c m own' s1.heap s1) E s := by
  obtain ⟨isg, hgo, gs, hgs, going⟩ := C
  have kbs : KeepB X.base s.heap := I.bk
  have fo : ∀ b ∈ own, FpOk X pins H b := fun b hb => O.fp b (List.mem_cons_of_mem _ hb)
  have notown : ∀ b u, H b = some u → b ∉ own := fun b u e hb => by
    have := (fo b hb).1
    rw [e] at this; cases this
  have baseOwn : ∀ b o, X.base.get? b = some o → b ∉ own := fun b o e hb => by
    have := (O.mine b (List.mem_cons_of_mem _ hb)).1
    rw [e] at this; cases this
  refine cell_next (I.ok.hd hc) I.nolimit hroom isg hgs going fun x y t own' tx ty h tk gs' h0 h1 h2 h3 h4 hk hnew ht hto hown hmine has hbare hgw => ?_
  have tne : ∀ b o, b ∉ own → s.heap.get? b = some o → b ≠ t := fun b o hb e z => Nat.lt_irrefl t (z ▸ hnew b o hb e)
  have tn : H t = none := by
    cases e : H t with
    | none => rfl
    | some u =>
      obtain ⟨o, ho⟩ := objOk_get (I.hok t u e)
      exact absurd rfl (tne t o (notown t u e) ho)
  have hH : ∀ b u, H b = some u → b ≠ t := fun b u e z => by rw [z, tn] at e; cases e
  have tO : ∀ b ∈ own, FpOk X pins (upd H t (.tup [.int x, .int y])) b ∨ b = t := fun b hb => by
    by_cases z : b = t
    · exact .inr z
    · obtain ⟨q1, q2⟩ := fo b hb
      exact .inl ⟨by rw [upd_ne z]; exact q1, q2⟩
  have I1 : Inv X pins σ (upd H t (.tup [.int x, .int y])) { s with heap := h, gens := (s.setGen g gs').gens, drawn := s.drawn, toks := tk } := by
    refine I.step (ch := own) (fun b hb => ?_) (fun b o _ _ hb e _ => hk b o hb e) (fun b o _ _ hb e _ => ⟨o.slots, hk b o hb e⟩) (fun b o hb e n => ?_) (fun b o hb e => ⟨o, hk b o hb e⟩) (fun b xs e => by rw [upd_ne (hH b _ e)]; exact e)
      (fun b o u e => by rw [upd_ne (hH b _ e)]; exact e) (fun b ps e => ⟨#[], by rw [upd_ne (hH b _ e), Array.append_empty]; exact e⟩) (fun m hm => ?_) (fun b u e => ?_) (allBare_setGen I.bare hbare)
    · obtain ⟨_, f1, _, f3, f4, f5⟩ := fo b hb
      exact ⟨f3, f1, f4, f5⟩
    · rw [upd_ne (tne b o hb e)]; exact n
    · refine hm.at' fun o e => hk _ o (fun z => ?_) e
      exact (fo _ z).2.1 rfl
    · by_cases z : b = t
      · subst z
        rw [upd_same] at e
        cases e
        exact ⟨by show 2 ≤ sizeLine; decide, [.int x tx, .int y ty], .cons ⟨_, rfl⟩ (.cons ⟨_, rfl⟩ .nil), _, ht, rfl, _, rfl⟩
      · rw [upd_ne z] at e
        refine (I.hok b u e).stay (fun d v hd q => hk d v (fun w => ?_) q) (fun d q => by rw [upd_ne (hH d _ q)]; exact q) fun d xs q => by rw [upd_ne (hH d _ q)]; exact q
        rcases hd with z2 | z2
        · rw [z2] at w; exact notown b u e w
        · exact notown d _ z2 w
  refine ⟨t, x, y, own', rfl, h0, h1, h2, h3, h4, tn, I1, ⟨fun b hb => ?_, fun b hb => ?_⟩, ?_⟩
  · rcases List.mem_cons.mp hb with z | z
    · rw [z]
      obtain ⟨q1, q2⟩ := O.fp ga (List.mem_cons_self ..)
      refine ⟨?_, q2⟩
      obtain ⟨o, _, _, e, _⟩ := isg
      rw [upd_ne (tne ga o hgo e)]; exact q1
    · rcases hown b z with w | w
      · rcases tO b w with q | q
        · exact q
        · exact absurd (q ▸ z) hto
      · have hbt : b ≠ t := fun q => hto (q ▸ z)
        have hbig : ∀ o, b ∉ own → s.heap.get? b = some o → False := fun o hb e => Nat.lt_irrefl b (w b o hb e)
        by_cases hb : b ∈ own
        · rcases tO b hb with q | q
          · exact q
          · exact absurd q hbt
        · obtain ⟨mL, ⟨oL, _, _, eL, _⟩, _⟩ := I.loc
          have LO : X.env.locals ∉ own := fun q => (fo _ q).2.1 rfl
          have bL := w _ oL LO eL
          have ne' : ∀ d o, d ∉ own → s.heap.get? d = some o → d ≠ b := fun d o hd e q => Nat.lt_irrefl b (q ▸ w d o hd e)
          refine ⟨?_, Nat.ne_of_gt bL, fun q => ?_, .inr (Nat.le_of_lt (Nat.lt_of_le_of_lt I.ok.above bL)), fun n d e q => ?_, fun p hp q => ?_⟩
          · rw [upd_ne hbt]
            cases e : H b with
            | none => rfl
            | some u =>
              obtain ⟨o, ho⟩ := objOk_get (I.hok b u e)
              exact (hbig o hb ho).elim
          · obtain ⟨_, o, ho, _⟩ := I.ok.funs.mem q
            obtain ⟨o', ho'⟩ := I.base.there b o ho (fun z => I.ok.exfs b z q)
            exact hbig o' hb ho'
          · obtain ⟨v, o, ho, _⟩ := I.cell n d e
            exact ne' d o (fun z => (fo _ z).2.2.2.2.1 n d e rfl) ho q
          · exact ne' p.1 p.2 (fun z => (fo _ z).2.2.2.2.2 p hp rfl) (I.pin p hp).1 q
  · rcases List.mem_cons.mp hb with z | z
    · rw [z]
      obtain ⟨q1, o, e, d⟩ := O.mine ga (List.mem_cons_self ..)
      exact ⟨q1, o, hk ga o hgo e, d⟩
    · exact hmine b z
  · obtain ⟨o, nm, qn, e1, e2⟩ := isg
    refine ⟨⟨o, nm, qn, hk ga o hgo e1, e2⟩, fun z => ?_, gs', ?_, has, hgw⟩
    · rcases hown ga z with w | w
      · exact hgo w
      · exact Nat.lt_irrefl ga (w ga o hgo e1)
    · show (s.gens.setIfInBounds g gs')[g]? = some gs'
      have hlt : g < s.gens.size := by
        rcases Nat.lt_or_ge g s.gens.size with q | q
        · exact q
        · rw [Array.getElem?_eq_none q] at hgs; cases hgs
      rw [Array.getElem?_setIfInBounds_self_of_lt hlt]
theorem cell_done {E : Value → Shared → Prop} (hc : X.calm = true) (hroom : X.A.depth < recursionLimit) (I : Inv X pins σ H s) (C : CellSt X ga g a c 0 own s) (O : Ours X pins H s.heap (ga :: own)) :
    wpAny (model X.prog X.w) X.A (pyNext (.ref ga)) (fun r s1 => r = none ∧ Inv X pins σ H s1) E s := by
  obtain ⟨isg, hgo, gs, hgs, going⟩ := C
  have fo : ∀ b ∈ own, FpOk X pins H b := fun b hb => O.fp b (List.mem_cons_of_mem _ hb)
  have notown : ∀ b u, H b = some u → b ∉ own := fun b u e hb => by
    have := (fo b hb).1
    rw [e] at this; cases this
  refine cell_stop (I.ok.hd hc) I.nolimit hroom isg hgs going fun h tk hk => ⟨rfl, ?_⟩
  have I1 : Inv X pins σ H { s with heap := h, gens := (s.setGen g .finished).gens, drawn := s.drawn, toks := tk } := ?_
  · exact I1
  refine I.step (g' := (s.setGen g .finished).gens) (d' := s.drawn) (ch := own) (fun b hb => ?_) (fun b o _ _ hb e _ => hk b o hb e) (fun b o _ _ hb e _ => ⟨o.slots, hk b o hb e⟩) (fun b o hb e n => n) (fun b o hb e => ⟨o, hk b o hb e⟩) (fun b xs e => e)
      (fun b o u e => e) (fun b ps e => ⟨#[], by rw [Array.append_empty]; exact e⟩) (fun m hm => ?_) (fun b u e => ?_) (allBare_setGen I.bare rfl)
  · obtain ⟨_, f1, _, f3, f4, f5⟩ := fo b hb
    exact ⟨f3, f1, f4, f5⟩
  · exact hm.at' fun o e => hk _ o (fun z => (fo _ z).2.1 rfl) e
  · refine (I.hok b u e).stay (fun d v hd q => hk d v (fun w => ?_) q) (fun d q => q) fun d xs q => q
    rcases hd with z2 | z2
    · rw [z2] at w; exact notown b u e w
    · exact notown d _ z2 w
/-- behind the body -/
theorem cell_back {m : Nat} {h : Heap} {H' : Hp} (I : Inv X (pins ++ pinsAt (ga :: own) h) σ H s) (O : Ours X pins H' h (ga :: own)) (z : CellZ X ga g a c m own h s) :
    Inv X pins σ H s ∧ Ours X pins H s.heap (ga :: own) ∧ CellSt X ga g a c m own s := by
  have pin : ∀ b ∈ ga :: own, ∀ o, h.get? b = some o → s.heap.get? b = some o ∧ H b = none := fun b hb o e =>
    let z := I.pin (b, o) (List.mem_append_right _ (List.mem_append_right _ (mem_pinsAt hb e)))
    ⟨z.1, z.2.1⟩
  refine ⟨I.unpinned, ⟨fun b hb => ?_, fun b hb => ?_⟩, z.st (fun o e => (pin ga (List.mem_cons_self ..) o e).1) (fun b hb o e => (pin b (List.mem_cons_of_mem _ hb) o e).1) I.bk⟩
  · obtain ⟨_, o, e, _⟩ := O.mine b hb
    exact ⟨(pin b hb o e).2, (O.fp b hb).2⟩
  · obtain ⟨q, o, e, d⟩ := O.mine b hb
    exact ⟨q, o, (pin b hb o e).1, d⟩
theorem cell_pin {h : Hp} (I : Inv X pins σ h s) (O : Ours X pins h s.heap (ga :: own)) : Inv X (pins ++ pinsAt (ga :: own) s.heap) σ h s :=
  I.pinned O.fp fun b hb => (O.mine b hb).2
theorem cell_go {E : Value → Shared → Prop} {tg : Expr} {u : Value} {Q : Unit → Shared → Prop} {M : Model} {A : Around} (isg : s.heap.IsGen ga g) (h : Q () s) : wpAny M A (letOwnedTupleGo tg (.ref ga) u) Q E s := by
  obtain ⟨o, nm, qn, e, hc, hd, _⟩ := isg
  exact go_of e hc hd (by decide) h
end
end Gf
end
section
set_option maxHeartbeats 4000000
/-! o.cell(): the generator is made. -/
namespace Gf
open PySem PySem.Spec PyProof.Rows L2
/-- Net.cell as it stands in the text -/
structure CellFn (K : PySem.W.Frag) (f : Addr) : Prop where
  ex : ∃ (p1 p2 p3 p4 p5 p6 p7 g1 g2 g3 py pg px pf q1 q2 q3 r1 r2 r3 r4 r5 : Pos) (k1 kk : Nat) (name qual : Str) (params : Arguments) (scope : Scope) (dV kV doc pm cdv ct oc : Value) (an od : Option Addr) (osl : Array (Option Value)),
    K.lookup f = some ⟨oc, od, .func (PySem.W.fnOf name qual params (bodyC p1 p2 p3 p4 p5 p6 p7 g1 g2 g3 py pg px pf q1 q2 q3 r1 r2 r3 r4 r5 k1 kk) scope dV kV doc pm an cdv ct), osl⟩ ∧ PySem.W.codeIn K cdv qual = true ∧
    Binds K (PySem.W.fnOf name qual params (bodyC p1 p2 p3 p4 p5 p6 p7 g1 g2 g3 py pg px pf q1 q2 q3 r1 r2 r3 r4 r5 k1 kk) scope dV kV doc pm an cdv ct) ["self"] [] ∧
    scope.kind = .function ∧ scope.isCoroutine = false ∧ scope.isGenerator = true ∧ scope.names.lookup ("self" : Str) = some .local ∧ scope.names.lookup ("a" : Str) = some .local ∧ scope.names.lookup ("b" : Str) = some .local ∧ scope.names.lookup ("c" : Str) = some .local ∧
    scope.names.lookup ("x" : Str) = some .local ∧ scope.names.lookup ("y" : Str) = some .local ∧ scope.names.lookup ("range" : Str) = some .globalImplicit
/-- a generator just made -/
def CellF (X : Cx) (ga : Addr) (g : Nat) (a c : Int) (L : Addr) (s : Shared) : Prop :=
  s.heap.IsGen ga g ∧ ga ≠ L ∧ ∃ gs, s.gens[g]? = some gs ∧ ∀ s2 : Shared, (∀ b o, s.heap.get? b = some o → s2.heap.get? b = some o) → s2.gens[g]? = some gs → CellSt X ga g a c (a * c).toNat [L] s2
section
variable {X : Cx} {pins : List (Addr × Obj)} {σ : L2.St} {H : Hp} {s : Shared} {E : Value → Shared → Prop}
theorem cell_made {f C n dx q : Addr} {fs : List (Str × V)} {a b c : Int} (F : CellFn X.K f) (cl : L2.Cls X.K C) (na : L2.NoAttr X.K C "own_numbers") (hrm : X.mg "range" = none) (hc : X.calm = true) (hroom : X.A.depth < recursionLimit)
    (I : Inv X pins σ H s) (hn : H n = some (.ins C dx fs)) (hq : fs.lookup ("own_numbers" : Str) = some (.ref q)) (ht : SqT X.K H q [.int a, .int b, .int c]) (ha : 0 < a) (ha2 : a < 2 ^ 62) (hc1 : 0 < c) (hc2 : c < 2 ^ 62) :
    wpAny (model X.prog X.w) X.A (call (.ref f) [.ref n]) (fun u s' => ∃ ga g L, u = .ref ga ∧ Inv X pins σ H s' ∧ Ours X pins H s'.heap [ga, L] ∧ CellF X ga g a c L s') E s := by
  obtain ⟨p1, p2, p3, p4, p5, p6, p7, g1, g2, g3, py, pg, px, pf, q1, q2, q3, r1, r2, r3, r4, r5, k1, kk, name, qual, params, scope, dV, kV, doc, pm, cdv, ct, oc, an, od, osl, lk, hcd, hb, k0, co, gen, ks, ka, kb, kc, kx, ky, kr⟩ := F.ex
  have KX := I.kIn
  refine wpAny_call ?_
  refine codeAny_call_generator hroom (KX _ _ lk) rfl co gen rfl (PySem.W.codeRec_of KX hcd) (hb s [.ref n] KX rfl _ _ _ _ ?_)
  refine wpAny_newFunctionEnv_cells k0 (fun y hy => ?_) fun env he s1 x => ?_
  · have e : y = (("self" : Str), Value.ref n) := by simpa using hy
    rw [e]; exact .inl ks
  subst he
  obtain ⟨h1, tk, es1, hk1⟩ := x.done
  subst es1
  have hns := x.toInCall.ns
  have lt1 : s.heap.objs.size < h1.objs.size := hns.lt
  have I1 : Inv X pins σ H { s with heap := h1, toks := tk } := I.kept hk1
  refine ⟨I1.nolimit, ?_⟩
  generalize hgo : ({ cls := .type "generator", data := .fields #[.int s.gens.size 0, .str name tk, .str qual (tk + 1)] } : Obj) = go
  have main : Inv X pins σ H { s with heap := h1.push go, gens := s.gens.push (.fresh (.func (bodyC p1 p2 p3 p4 p5 p6 p7 g1 g2 g3 py pg px pf q1 q2 q3 r1 r2 r3 r4 r5 k1 kk) (envOfC qual scope s.heap.objs.size f cdv))), toks := tk + 1 + 1 } :=
    regen (G := s.gens.push (.fresh (.func (bodyC p1 p2 p3 p4 p5 p6 p7 g1 g2 g3 py pg px pf q1 q2 q3 r1 r2 r3 r4 r5 k1 kk) (envOfC qual scope s.heap.objs.size f cdv)))) (I1.kept (t' := tk + 1 + 1) fun b o e => Heap.get?_push_of_some _ e) (AllBare.push I.bare rfl)
  have hpushed : (h1.push go).get? h1.objs.size = some go := Heap.get?_push_size _ (by subst hgo; rfl)
  have nsE : h1.Ns s.heap.objs.size (bindL (envOfC qual scope s.heap.objs.size f cdv).kindOf [(("self" : Str), Value.ref n)] fun _ => none) := hns
  have hself : (bindL (envOfC qual scope s.heap.objs.size f cdv).kindOf [(("self" : Str), Value.ref n)] fun _ => none) "self" = some (.ref n) := by
    have e : (envOfC qual scope s.heap.objs.size f cdv).kindOf "self" = some .local := ks
    show bindL (envOfC qual scope s.heap.objs.size f cdv).kindOf [] (if (envOfC qual scope s.heap.objs.size f cdv).kindOf "self" = some .local then fun y => if y = "self" then some (.ref n) else none else fun _ => none) "self" = _
    rw [if_pos e]
    show (if (("self" : Str) = "self") then some (Value.ref n) else none) = _
    exact if_pos rfl
  have G : GEnv (envOfC qual scope s.heap.objs.size f cdv) s.heap.objs.size := ⟨k0, co, rfl, rfl, rfl, ka, kc, kx, ky, kr⟩
  have B : BaseR X.base := by
    obtain ⟨mb, b1, b2⟩ := I.ok.mod.blt
    exact ⟨X.mg, mb, I.ok.mod.glob, hrm, b1, (b2 _ (by decide)).trans PyProof.Rows.boot_range⟩
  have isg : ∀ h : Heap, h.get? h1.objs.size = some go → h.IsGen h1.objs.size s.gens.size := fun h e => ⟨go, _, _, e, by rw [← hgo], by rw [← hgo], by rw [← hgo]⟩
  have nL : X.base.get? s.heap.objs.size = none := by
    cases e : X.base.get? s.heap.objs.size with
    | none => rfl
    | some o => exact absurd (Heap.lt_size (I.bk _ _ e)) (Nat.lt_irrefl _)
  have nga : X.base.get? h1.objs.size = none := by
    cases e : X.base.get? h1.objs.size with
    | none => rfl
    | some o => exact absurd (Nat.lt_trans lt1 (Heap.lt_size (I.bk _ _ e))) (Nat.lt_irrefl _)
  obtain ⟨mA, O, r, _, _, _⟩ := ins_get I.hok hn
  obtain ⟨vq, hvq, rq⟩ := RelO.some_of (v := V.ref q) (o := mA ("own_numbers" : Str)) (by rw [← hq]; exact r _)
  obtain rfl : vq = Value.ref q := rq
  obtain ⟨its, rits, tits, _⟩ := I.tuple ht
  obtain ⟨ta, tb, tc, rfl⟩ : ∃ ta tb tc, its = [.int a ta, .int b tb, .int c tc] := by
    cases rits with
    | cons h1 t1 =>
      cases t1 with
      | cons h2 t2 =>
        cases t2 with
        | cons h3 t3 =>
          cases t3
          obtain ⟨_, rfl⟩ := h1
          obtain ⟨_, rfl⟩ := h2
          obtain ⟨_, rfl⟩ := h3
          exact ⟨_, _, _, rfl⟩
  refine ⟨h1.objs.size, s.gens.size, s.heap.objs.size, rfl, main, ⟨fun b hb => ?_, fun b hb => ?_⟩, isg _ hpushed, Nat.ne_of_gt lt1, _, Array.getElem?_push_size .., fun s2 k2 g2 => ?_⟩
  · rcases List.mem_cons.mp hb with z | z
    · rw [z]; exact I1.fpOk (Nat.le_refl _) (I1.hok.fresh (Nat.le_refl _))
    · rw [List.mem_singleton.mp z]; exact I.fpOk (Nat.le_refl _) (I.hok.fresh (Nat.le_refl _))
  · rcases List.mem_cons.mp hb with z | z
    · rw [z]; exact ⟨nga, go, hpushed, fun v q => by rw [← hgo] at q; cases q⟩
    · rw [List.mem_singleton.mp z]
      obtain ⟨o, es, ep, e, d, _⟩ := hns
      exact ⟨nL, o, Heap.get?_push_of_some _ e, fun v q => by rw [d] at q; cases q⟩
  · have kp : ∀ b o, h1.get? b = some o → s2.heap.get? b = some o := fun b o e => k2 b o (Heap.get?_push_of_some _ e)
    refine ⟨isg _ (k2 _ _ hpushed), fun z => absurd (List.mem_singleton.mp z) (Nat.ne_of_gt lt1), _, g2, ?_⟩
    show SegE _ _ _ _ _ _ _
    exact fresh_ok (A := X.A.in1) (h := h1) (mA := mA) (n := n) (q := q) (base := X.base) (b := b) G kb ks (I.ok.hd hc) I.ok.mod.kin B cl na nL ha ha2 hc1 hc2 (fun b o e => hk1 b o (I.bk b o e)) ⟨hk1 _ _ O.obj, O.ns.at fun o e => hk1 _ _ e, O.ne⟩ hvq (tits.keeps hk1) nsE hself _ kp
end
end Gf
end
section
set_option maxHeartbeats 4000000
/-! for .. in o.cell(): ..; [.. for .. in o.cell()] -/
namespace Gf
open PySem PySem.Spec PyProof.Rows L2
/-- a net, by its numbers -/
def NetOf (K : PySem.W.Frag) (C : Addr) (H : Hp) (x : V) (a b c : Int) : Prop :=
  ∃ n dx fs q, x = .ref n ∧ H n = some (.ins C dx fs) ∧ fs.lookup ("cell" : Str) = none ∧ fs.lookup ("own_numbers" : Str) = some (.ref q) ∧ SqT K H q [.int a, .int b, .int c] ∧ 0 < a ∧ a < 2 ^ 62 ∧ 0 < c ∧ c < 2 ^ 62
/-- how a turn's place lies -/
def Spot (a c x y : Int) (m : Nat) : Prop := 0 ≤ x ∧ x < a ∧ 0 ≤ y ∧ y < c ∧ (m : Int) = (a - 1 - x) + (c - 1 - y) * a
def tForCell (K : PySem.W.Frag) (C : Addr) (to : TE) (g : TG) (tb : TS) : TS := fun D σ H => to σ H fun x H1 => ∃ a b c, NetOf K C H1 x a b c ∧ ∃ W : Nat → L2.St → Hp → Prop, W (a * c).toNat σ H1 ∧ (∀ σ' H', W 0 σ' H' → D.nx σ' H') ∧
  ∀ m x y t σ' H', W (m + 1) σ' H' → Spot a c x y m → H' t = none → g (.ref t) σ' (upd H' t (.tup [.int x, .int y])) fun σ2 H2 => tb { D with nx := W m, ct := W m, bk := D.nx } σ2 H2
def tLcCell (K : PySem.W.Frag) (C : Addr) (to : TE) (g : TG) (te : TE) (vs : List Nat) : TE := fun σ H Q => to σ H fun x H1 => ∃ a b c, NetOf K C H1 x a b c ∧ ∀ D, H1 D = none → ∃ W : Nat → Hp → Prop, W (a * c).toNat (upd H1 D (.lst [])) ∧ (∀ H', W 0 H' → Q (.ref D) H') ∧
  ∀ m x y t H', W (m + 1) H' → Spot a c x y m → H' t = none → g (.ref t) (wipe σ vs) (upd H' t (.tup [.int x, .int y])) fun σ2 H2 => wipe σ2 vs = wipe σ vs ∧ te σ2 H2 fun z H4 => ∃ acc, H4 D = some (.lst acc) ∧ acc.length < sizeLine ∧ W m (upd H4 D (.lst (acc ++ [z])))
section
variable {X : Cx} {f C : Addr} {o : Expr} {to : TE} {p1 p2 : Pos}
/-- o.cell() -/
theorem cell_eval {pl : Sem Bool} {pins : List (Addr × Obj)} {σ : L2.St} {H : Hp} {s : Shared} {R : V → Hp → Prop} (F : CellFn X.K f) (c : L2.Cls X.K C) (hm : L2.Meth X.K C "cell" f) (na : L2.NoAttr X.K C "own_numbers") (hrm : X.mg "range" = none) (hc : X.calm = true) (hroom : X.A.depth < recursionLimit)
    (he : PE X o to) (I : Inv X pins σ H s) (h : to σ H R) (hR : ∀ x H1, R x H1 → ∃ a b c, NetOf X.K C H1 x a b c)
    (ht : eval (.Call (.Attribute o "cell" p1) [] [] p2) X.env = (do
      let ov ← eval o X.env
      standAt p1.atName
      let (f, first) ← holding [ov] (getMethod ov "cell" pl)
      callWith p2 f first (backTo p2 (starEach [] X.env)) (backToKw p2 (keywordEach [] X.env)))) :
    wpAny (model X.prog X.w) X.A (eval (.Call (.Attribute o "cell" p1) [] [] p2) X.env) (fun u s' => ∃ x H1 a b c, R x H1 ∧ NetOf X.K C H1 x a b c ∧ ∃ ga g L, u = .ref ga ∧ Inv X pins σ H1 s' ∧ Ours X pins H1 s'.heap [ga, L] ∧ CellF X ga g a c L s') X.xe s := by
  refine PySem.W.methodCall_KW (pl := pl) (thn (he.run pins s σ H _ I h) fun u s1 ⟨x, H1, I1, rx, hx⟩ => ?_) ht
  obtain ⟨a, b, c', N⟩ := hR x H1 hx
  obtain ⟨n, dx, fs, q, rfl, hn, hf, hq, hT, b1, b2, b3, b4⟩ := id N
  obtain rfl : u = Value.ref n := rx
  refine getmeth_ok I1 hn c hm hf ?_
  refine PySem.W.callWith_K0 (first := [.ref n]) I1.kIn hm.kp (thn (cell_made F c na hrm hc hroom I1 hn hq hT b1 b2 b3 b4) fun u s2 ⟨ga, g, L, e, I2, O2, F2⟩ => ?_)
  exact ⟨_, H1, a, b, c', hx, N, ga, g, L, e, I2, O2, F2⟩
/-- for tg in o.cell(): body -/
theorem ps_forCell {tg : Expr} {body : List Stmt} {g : TG} {tb : TS} {pos : Pos} {pl : Sem Bool} (F : CellFn X.K f) (c : L2.Cls X.K C) (hm : L2.Meth X.K C "cell" f) (na : L2.NoAttr X.K C "own_numbers") (hrm : X.mg "range" = none) (hc : X.calm = true) (hroom : X.A.depth < recursionLimit)
    (he : PE X o to) (hg : PG X.nox tg g) (hb : PSs X.nox body tb)
    (ht : eval (.Call (.Attribute o "cell" p1) [] [] p2) X.env = (do
      let ov ← eval o X.env
      standAt p1.atName
      let (f, first) ← holding [ov] (getMethod ov "cell" pl)
      callWith p2 f first (backTo p2 (starEach [] X.env)) (backToKw p2 (keywordEach [] X.env))) := by rfl)
    (hs : ∀ x, foldedSetIterable (.Call (.Attribute o "cell" p1) [] [] p2) X.env x = pure x := by intro _; rfl) :
    PS X (.For tg (.Call (.Attribute o "cell" p1) [] [] p2) body [] pos) (tForCell X.K C to g tb) := by
  refine ⟨fun pins s σ H D I h => ?_⟩
  refine wpAny_For (thn (cell_eval F c hm na hrm hc hroom he I h (fun x H1 ⟨a, b, c, q, _⟩ => ⟨a, b, c, q⟩) ht) fun v s1 ⟨x, H1, a0, b0, c0, ⟨a, b, c, N, W, w0, wz, step⟩, _, ga, gn, L, e, I1, O1, F1⟩ => ?_) hs
  have same : a0 = a ∧ c0 = c := by
    rename_i N0
    obtain ⟨n, dx, fs, q, rfl, hn, hf, hq, hT, b1, b2, b3, b4⟩ := N
    obtain ⟨n', dx', fs', q', e', hn', hf', hq', hT', b1', b2', b3', b4'⟩ := N0
    cases e'
    rw [hn] at hn'; cases hn'
    rw [hq] at hq'; cases hq'
    have z := I1.tuple_inj hT hT'
    simp only [List.cons.injEq, V.int.injEq] at z
    exact ⟨z.1.symm, z.2.2.1.symm⟩
  obtain ⟨rfl, rfl⟩ := same
  subst e
  obtain ⟨isg, hgL, gs, hgs, hst⟩ := F1
  refine wpAny_pyIter_gen isg ?_
  refine codeAny_forLoop_any (fun n s' => ∃ σ' H' own, Inv X pins σ' H' s' ∧ Ours X pins H' s'.heap (ga :: own) ∧ CellSt X ga gn a0 c0 n own s' ∧ W n σ' H') ?_ _ ⟨σ, H1, [L], I1, O1, hst s1 (fun _ _ e => e) hgs, w0⟩
  rintro n s3 ⟨σ3, H3, own, I3, O3, S3, w3⟩
  cases n with
  | zero =>
    refine thnF (cell_done hc hroom I3 S3 O3) fun r s4 ⟨hr, I4⟩ => ?_
    subst hr
    exact wpAny_execs_nil ⟨σ3, H3, I4, wz _ _ w3⟩
  | succ m =>
    refine thnF (cell_turn hc hroom I3 S3 O3) fun r s4 ⟨t, x, y, own', hr, h1, h2, h3, h4, h5, tn, I4, O4, Z4⟩ => ?_
    subst hr
    refine cell_go Z4.1 ?_
    have I5 : Inv X.nox (pins ++ pinsAt (ga :: own') s4.heap) σ3 _ s4 := (cell_pin I4 O4).wish _
    refine thnF (wpAny_mono (wpAny_numb (hg.run _ (numb s4) σ3 _ (.ref t) (.ref t) _ (numb_inv I5) rfl (step m x y t σ3 H3 w3 ⟨h1, h2, h3, h4, h5⟩ tn))) (fun _ s5 h5 => h5) fun _ _ ⟨_, _, z⟩ => z) fun _ s5 ⟨s5', w5, σ5, H5, I5', q5⟩ => ?_
    have I6 := woke_inv w5 I5'
    have Z5 := Z4.woke w5
    refine thnF (wpAny_mono (wpAny_numb (hb.run _ (numb s5) σ5 H5 _ (numb_inv I6) q5)) (fun _ s5 h5 => h5) fun _ _ ⟨_, _, z⟩ => z) fun fl s7 ⟨s7', w7, q7⟩ => ?_
    have Z7 := Z5.woke w7
    have again : ∀ {σ7 : L2.St} {H7 : Hp}, Inv X.nox (pins ++ pinsAt (ga :: own') s4.heap) σ7 H7 s7' → W m σ7 H7 → ∃ k, k < m + 1 ∧ ∃ σ' H' own, Inv X pins σ' H' s7 ∧ Ours X pins H' s7.heap (ga :: own) ∧ CellSt X ga gn a0 c0 k own s7 ∧ W k σ' H' := fun {σ7 H7} I7 n7 => by
      obtain ⟨y1, y2, y3⟩ := cell_back (woke_inv w7 I7).unwish O4 Z7
      exact ⟨m, Nat.lt_succ_self m, σ7, H7, own', y1, y2, y3, n7⟩
    cases fl with
    | next => obtain ⟨σ7, H7, I7, n7⟩ := q7; exact again I7 n7
    | cont => obtain ⟨σ7, H7, I7, n7⟩ := q7; exact again I7 n7
    | brk => obtain ⟨σ7, H7, I7, q7⟩ := q7; exact ⟨σ7, H7, (woke_inv w7 I7).unwish.unpinned, q7⟩
    | ret v => obtain ⟨x7, σ7, H7, I7, r7, q7⟩ := q7; exact ⟨x7, σ7, H7, (woke_inv w7 I7).unwish.unpinned, r7, q7⟩
end
end Gf
end
section
set_option maxHeartbeats 4000000
/-! [.. for .. in o.cell()] -/
namespace Gf
open PySem PySem.Spec PyProof.Rows L2
section
variable {X : Cx} {f C : Addr} {o : Expr} {to : TE} {p1 p2 : Pos}
theorem pe_lcCell {elt tg : Expr} {scope : Scope} {nown : List (Str × Nat)} {pos : Pos} {g : TG} {te : TE} {pl : Sem Bool} (F : CellFn X.K f) (c : L2.Cls X.K C) (hm : L2.Meth X.K C "cell" f) (na : L2.NoAttr X.K C "own_numbers") (hrm : X.mg "range" = none) (hc : X.calm = true) (hroom : X.A.depth < recursionLimit)
    (ho : PE X o to) (hN : X.N.Nodup) (ok : BlkOk X.N X.env.scope scope nown)
    (hg : ∀ (s : Shared) (H : Hp) (C : Addr) (cl : List (Str × Addr)) (fp : List Addr), PG (X.blk s H scope (compEnvC scope cl C X.env) fp) tg g)
    (he : ∀ (s : Shared) (H : Hp) (C : Addr) (cl : List (Str × Addr)) (fp : List Addr), PE (X.blk s H scope (compEnvC scope cl C X.env) fp) elt te)
    (ht : eval (.Call (.Attribute o "cell" p1) [] [] p2) X.env = (do
      let ov ← eval o X.env
      standAt p1.atName
      let (f, first) ← holding [ov] (getMethod ov "cell" pl)
      callWith p2 f first (backTo p2 (starEach [] X.env)) (backToKw p2 (keywordEach [] X.env))) := by rfl)
    (hs : ∀ x, foldedSetIterable (.Call (.Attribute o "cell" p1) [] [] p2) X.env x = pure x := by intro _; rfl) :
    PE X (.ListComp elt [⟨tg, .Call (.Attribute o "cell" p1) [] [] p2, [], 0⟩] scope pos) (tLcCell X.K C to g te (nown.map (·.2))) := by
  refine ⟨fun pins s σ H Q I h => ?_⟩
  rw [eval_ListComp]
  have hfree : ∀ y ∈ scope.names, y.2 = .free → ∃ c, X.env.cells.lookup y.1 = some c := fun y hy e => by
    rcases ok.free y hy e with k | k
    · exact I.ok.has _ (.inl k)
    · exact I.ok.has _ (.inr k)
  refine wpAny_comprehension_free (use := none) rfl hs (closure_ok hfree) ok.kind (fun y hy e => by rw [ok.uniq y hy, e])
    (thn (cell_eval F c hm na hrm hc hroom ho I h (fun x H1 ⟨a, b, c, q, _⟩ => ⟨a, b, c, q⟩) ht) fun v s1 ⟨x, H2, a0, b0, c0, ⟨a, b, c, N, hD0⟩, N0, ga, gn, L, e, I2, O2, F1⟩ => ?_)
  have same : a0 = a ∧ c0 = c := by
    obtain ⟨n, dx, fs, q, rfl, hn, hf, hq, hT, b1, b2, b3, b4⟩ := N
    obtain ⟨n', dx', fs', q', e', hn', hf', hq', hT', b1', b2', b3', b4'⟩ := N0
    cases e'
    rw [hn] at hn'; cases hn'
    rw [hq] at hq'; cases hq'
    have z := I2.tuple_inj hT hT'
    simp only [List.cons.injEq, V.int.injEq] at z
    exact ⟨z.1.symm, z.2.2.1.symm⟩
  obtain ⟨rfl, rfl⟩ := same
  subst e
  obtain ⟨isg, hgL, gs, hgs, hst⟩ := F1
  refine wpAny_pyIter_gen isg ?_
  refine wpAny_newObj_type (newEnv_comp ?_) (by show 0 ≤ sizeLine; decide)
  generalize hD : s1.heap.objs.size = D
  have hDn : H2 D = none := I2.hok.fresh (Nat.le_of_eq hD)
  obtain ⟨W, w0, wz, step⟩ := hD0 D hDn
  generalize hs3 : ({ s1 with heap := s1.heap.push { cls := .type "list", data := .seq ([] : List Value).toArray } } : Shared) = s3
  have I3 : Inv X pins σ (upd H2 D (.lst [])) s3 := by
    rw [← hs3]
    refine I2.laid (t' := s1.toks) (fun b o e => Heap.get?_push_of_some _ e) (Nat.le_of_eq hD) ⟨Nat.zero_le _, [], 0, .nil, ?_⟩
    rw [← hD]
    exact Heap.get?_push_size _ rfl
  have h3 : s3.heap = s1.heap.push { cls := .type "list", data := .seq ([] : List Value).toArray } := by rw [← hs3]
  have k3 : ∀ b o, s1.heap.get? b = some o → s3.heap.get? b = some o := fun b o e => by rw [h3]; exact Heap.get?_push_of_some _ e
  have sz : ∀ b ∈ [ga, L], b < s1.heap.objs.size := fun b hb => by
    obtain ⟨_, o, e, _⟩ := O2.mine b hb
    exact Heap.lt_size e
  have f3 : ∀ b ∈ [ga, L], FpOk X pins (upd H2 D (.lst [])) b ∧ b < s3.heap.objs.size := fun b hb => by
    have hlt := sz b hb
    refine ⟨⟨?_, (O2.fp b hb).2⟩, by rw [h3, Heap.size_push]; exact Nat.lt_succ_of_lt hlt⟩
    rw [upd_ne (by rw [← hD]; exact Nat.ne_of_lt hlt)]
    exact (O2.fp b hb).1
  have I4 := block_start I3 ok hN f3
  have pg := hg s3 (upd H2 D (.lst [])) s3.heap.objs.size (cellsFrom (s3.heap.objs.size + 1) scope.names (cloFrom X.env.cells scope.names [])) [ga, L]
  have pe := he s3 (upd H2 D (.lst [])) s3.heap.objs.size (cellsFrom (s3.heap.objs.size + 1) scope.names (cloFrom X.env.cells scope.names [])) [ga, L]
  show codeAny _ _ (.compStart (.ListComp elt [⟨tg, .Call (.Attribute o "cell" p1) [] [] p2, [], 0⟩] scope pos) 0 (.ref ga) (.ref D) (compEnvC scope (cellsFrom (s3.heap.objs.size + 1) scope.names (cloFrom X.env.cells scope.names [])) s3.heap.objs.size X.env)) (compPost (model X.prog X.w) X.A X.xe none (EP X pins σ Q) (.ref D) s3.heap.objs.size) { s3 with heap := pushCells (s3.heap.push { cls := .type "dict", data := .dict #[] }) scope.names }
  generalize hce : compEnvC scope (cellsFrom (s3.heap.objs.size + 1) scope.names (cloFrom X.env.cells scope.names [])) s3.heap.objs.size X.env = ce at I4 pg pe ⊢
  have cL : ce.locals = s3.heap.objs.size := by subst hce; rfl
  generalize hH3 : upd H2 D (.lst []) = H3 at I3 I4 pg pe w0 f3
  generalize hs4 : ({ s3 with heap := pushCells (s3.heap.push { cls := .type "dict", data := .dict #[] }) scope.names } : Shared) = s4 at I4 ⊢
  have k4 : ∀ b o, s1.heap.get? b = some o → s4.heap.get? b = some o := fun b o e => by rw [← hs4]; exact pushCells_keeps _ _ _ _ (Heap.get?_push_of_some _ (k3 b o e))
  have g4 : s4.gens = s1.gens := by rw [← hs4, ← hs3]
  have O4 : Ours (X.blk s3 H3 scope ce [ga, L]) [] H3 s4.heap [ga, L] := by
    refine ⟨fun b hb => ⟨(f3 b hb).1.1, (I4.ok.exf b hb).1, I4.ok.exfs b hb, .inl hb, fun x c e => (I4.ok.exf b hb).2 x c e, fun p hp => absurd (show p ∈ ([] : List (Addr × Obj)) ++ [] from hp) (by simp)⟩, fun b hb => ?_⟩
    obtain ⟨q, o, e, d⟩ := O2.mine b hb
    exact ⟨q, o, k4 b o e, d⟩
  have C4 : CellSt (X.blk s3 H3 scope ce [ga, L]) ga gn a0 c0 (a0 * c0).toNat [L] s4 := hst s4 k4 (by rw [g4]; exact hgs)
  have loop : codeAny (model X.prog X.w) X.A (.compLoop (.ListComp elt [⟨tg, .Call (.Attribute o "cell" p1) [] [] p2, [], 0⟩] scope pos) 0 (.ref ga) (.ref D) ce) (compPost (model X.prog X.w) X.A X.xe none (EP X pins σ Q) (.ref D) s3.heap.objs.size) s4 := by
    refine compLoop_any (fun n s' => ∃ H' own, Inv (X.blk s3 H3 scope ce [ga, L]) [] (wipe σ (nown.map (·.2))) H' s' ∧ Ours (X.blk s3 H3 scope ce [ga, L]) [] H' s'.heap (ga :: own) ∧ CellSt (X.blk s3 H3 scope ce [ga, L]) ga gn a0 c0 n own s' ∧ W n H') ?_ _ ⟨H3, [L], I4, O4, C4, w0⟩
    rintro n s5 ⟨H5, own, I5, O5, S5, w5⟩
    cases n with
    | zero =>
      have td := cell_done (E := fun _ _ => False) (X := X.blk s3 H3 scope ce [ga, L]) hc hroom I5 S5 O5
      refine thnF td fun r s6 ⟨hr, I6⟩ => ?_
      subst hr
      have I7 : Inv X pins σ H5 s6 := I3.call' (ch := [ga, L]) I6.os I6.base I6.hok I6.bare fun b hb => ⟨(f3 b hb).1.2.2.2.1, (f3 b hb).1.2.1, (f3 b hb).1.2.2.2.2.1, (f3 b hb).1.2.2.2.2.2⟩
      have nC : H5 s3.heap.objs.size = none := by
        have z : H5 ce.locals = none := I6.free
        rw [cL] at z
        exact z
      obtain ⟨m, hn, _⟩ := I6.loc
      have hn : s6.heap.Ns ce.locals m := hn
      rw [cL] at hn
      obtain ⟨f0, f1, f2, f3', f4, f5⟩ := I3.fpOk (Nat.le_refl _) nC
      exact ⟨m, hn, fun h'' sb => ⟨.ref D, H5, I7.turned (t' := s6.toks) (fun b o hb e => (sb.2 b hb).trans e) f0 f1 f3' f4 f5, rfl, wz _ w5⟩⟩
    | succ m =>
      have ti := cell_turn (E := fun _ _ => False) (X := X.blk s3 H3 scope ce [ga, L]) hc hroom I5 S5 O5
      refine thnF ti fun r s6 ⟨t, x, y, own', hr, h1, h2, h3, h4, h5, tn, I6, O6, Z6⟩ => ?_
      subst hr
      refine cell_go Z6.1 ?_
      have I6' := cell_pin I6 O6
      refine thnF (wpAny_mono (wpAny_numb (pg.run _ (numb s6) _ _ (.ref t) (.ref t) _ (numb_inv I6') rfl (step m x y t H5 w5 ⟨h1, h2, h3, h4, h5⟩ tn))) (fun _ s5 h5 => h5) fun _ _ ⟨_, _, z⟩ => z) fun _ s8 ⟨s8', w8, σ8, H8, I8', hw8, q8⟩ => ?_
      have I8 := woke_inv w8 I8'
      have Z8 := Z6.woke w8
      refine wpAny_tests_nil ?_
      simp only [if_true]
      refine thnF (wpAny_mono (wpAny_numb (pe.run _ (numb s8) σ8 H8 _ (numb_inv I8) q8)) (fun _ s5 h5 => h5) fun _ _ ⟨_, _, z⟩ => z) fun z s10 ⟨s10', w10, yv, H10, I10', r10, acc, hD10, hz10, nx⟩ => ?_
      have I10 := woke_inv w10 I10'
      have Z10 := Z8.woke w10
      have ap := app_ok (E := fun _ _ => False) (X := X.blk s3 H3 scope ce [ga, L]) (Q := fun v s' => v = Value.none ∧ Inv (X.blk s3 H3 scope ce [ga, L]) ([] ++ pinsAt (ga :: own') s6.heap) σ8 (upd H10 D (.lst (acc ++ [yv]))) s') (numb_inv I10) hD10 hz10 r10 fun s' I' => ⟨rfl, I'⟩
      refine thnF (wpAny_mono (wpAny_numb ap) (fun _ _ h => h) fun _ _ ⟨_, _, z⟩ => z) fun _ s11 ⟨s11', w11, _, I11'⟩ => ?_
      obtain ⟨y1, y2, y3⟩ := cell_back (woke_inv w11 I11') O6 (Z10.woke w11)
      have hl : (wipe σ (nown.map (·.2))).length = σ8.length := by rw [← hw8, wipe_length]
      refine ⟨m, Nat.lt_succ_self m, _, own', y1.weak hl (fun j v e => ?_), y2, y3, nx⟩
      rw [← hw8] at e
      exact (wipe_some e).1
  exact codeAny_compStart_list loop (wpAny_pyIter_gen C4.1 loop)
end
end Gf
end
section
set_option maxHeartbeats 4000000
/-! A lambda of one parameter that is handed on: what it promises. -/
namespace Cl
open PySem PySem.Spec PyProof.Rows L2 LamX NdefX
/-- no exception comes -/
abbrev C0 : CXT := fun _ _ _ _ _ _ => False
abbrev EN : XK := fun _ _ _ => False
theorem passes0 {X : Cx} {E : XK} : Passes C0 X E := fun _ _ _ _ _ _ _ h => h.elim
def Ex (H H' : Hp) : Prop := ∀ b o, H b = some o → H' b = some o
theorem Ex.refl (H : Hp) : Ex H H := fun _ _ e => e
theorem Ex.trans {H H1 H2 : Hp} (a : Ex H H1) (b : Ex H1 H2) : Ex H H2 := fun c o e => b c o (a c o e)
theorem Ex.upd {H : Hp} {a : Addr} {o : HO} (h : H a = none) : Ex H (upd H a o) := fun b u e => by
  rw [upd_ne (ne_of_none e h)]; exact e
theorem Ex.n {H H' : Hp} (e : Ex H H') : ExtN H H' := fun b o h _ => e b o h
/-- the lambda's names: the parameter x, then the captured ones; cel: x is captured in its turn -/
structure LScope (N : List Str) (x : Str) (fr : List Str) (sc : Scope) (cel : Bool) : Prop where
  kind : sc.kind = .function
  co : sc.isCoroutine = false
  gen : sc.isGenerator = false
  pre : N.take (1 + fr.length) = x :: fr
  nx : x ∉ fr
  par : sc.names.lookup x = some (if cel = true then .cell else .local)
  cells : ∀ n acc, cellsFrom n sc.names acc = if cel = true then (x, n) :: acc else acc
  push : ∀ h : Heap, pushCells h sc.names = if cel = true then h.push { cls := .type "cell", data := .cell none } else h
  cel1 : ∀ y, sc.names.lookup y = some .cell → y = x ∧ cel = true
  free : ∀ y ∈ sc.names, y.2 = .free → y.1 ∈ fr
  frk : ∀ y ∈ fr, sc.names.lookup y = some .free
abbrev lcells (x : Str) (cel : Bool) (L : Addr) (cl : List (Str × Addr)) : List (Str × Addr) := if cel = true then (x, L + 1) :: cl else cl
abbrev lenv (qual : Str) (scope : Scope) (x : Str) (cel : Bool) (L f c' : Addr) (cl : List (Str × Addr)) : Env := PySem.W.envX qual scope L f (.ref c') (lcells x cel L cl)
/-- the lambda's frame is laid -/
theorem lam_env {M : Model} {A : Around} {E : Value → Shared → Prop} {s : Shared} {N : List Str} {x : Str} {fr : List Str} {sc : Scope} {cel : Bool} {cl : List (Str × Addr)} {qual : Str} {f c' : Addr} {v : Value} {Q : Env → Shared → Prop} (S : LScope N x fr sc cel)
    (hQ : ∀ (h₁ : Heap) (m : Str → Option Value), (∀ b o, s.heap.get? b = some o → h₁.get? b = some o) → h₁.Ns s.heap.objs.size m → (cel = false → m x = some v) → (cel = true → h₁.IsCell (s.heap.objs.size + 1) (some v)) → ∀ tk, Q (lenv qual sc x cel s.heap.objs.size f c' cl) { s with heap := h₁, toks := tk }) :
    wpAny M A (newFunctionEnv sc mainGlobals cl [(x, v)] (qual ++ ".<locals>.") (some f) (.ref c') none builtinsNs) Q E s := by
  simp only [newFunctionEnv, Option.isSome_none, Bool.false_eq_true, if_false]
  refine wpAny_bind (wpAny_alloc ?_)
  refine wpAny_bind (wpAny_layCells _ (fun name kind cells => by cases hkc : kind == NameKind.cell <;> simp [hkc]) _ _ _ _ ?_)
  rw [S.cells, S.push]
  rw [show ({ s with heap := s.heap.push { cls := .type "frame", data := .dict #[] } } : Shared).heap.objs.size = s.heap.objs.size + 1 from Heap.size_push ..]
  have n0 : (s.heap.push { cls := .type "frame", data := .dict #[] }).Ns s.heap.objs.size (fun _ => none) := Heap.Ns.new s.heap (.type "frame")
  have k0 : ∀ b o, s.heap.get? b = some o → (s.heap.push { cls := .type "frame", data := .dict #[] }).get? b = some o := fun b o e => Heap.get?_push_of_some _ e
  cases cel with
  | false =>
    simp only [Bool.false_eq_true, if_false]
    rw [List.forIn_cons]
    have hk : Env.kindOf { scope := sc, locals := s.heap.objs.size, globals := mainGlobals, cells := cl, qual := qual ++ ".<locals>.", func := some f, code := .ref c', frame := some s.heap.objs.size, builtins := builtinsNs } x = some .local := by
      have := S.par
      rwa [if_neg (by decide)] at this
    refine wpAny_bind (wpAny_bind (wpAny_bind (wpAny_storeName_local hk n0 (fun h2 n2 sb2 => ?_) (by show (sc.kind == _ || _) = false; rw [S.kind]; rfl))))
    refine wpAny_pure ?_
    simp only [List.forIn_nil]
    refine wpAny_pure (wpAny_pure ?_)
    refine hQ h2 _ (fun b o e => (sb2.2 b (Nat.ne_of_lt (Heap.lt_size e))).trans (k0 b o e)) n2 (fun _ => if_pos rfl) (fun z => by cases z) _
  | true =>
    simp only [if_true]
    rw [List.forIn_cons]
    have hk : Env.kindOf { scope := sc, locals := s.heap.objs.size, globals := mainGlobals, cells := (x, s.heap.objs.size + 1) :: cl, qual := qual ++ ".<locals>.", func := some f, code := .ref c', frame := some s.heap.objs.size, builtins := builtinsNs } x = some .cell := by
      have := S.par
      rwa [if_pos rfl] at this
    have hc0 : ((s.heap.push { cls := .type "frame", data := .dict #[] }).push { cls := .type "cell", data := .cell none }).IsCell (s.heap.objs.size + 1) none := by
      refine ⟨{ cls := .type "cell", data := .cell none }, ?_, rfl⟩
      have e := Heap.get?_push_size (s.heap.push { cls := .type "frame", data := .dict #[] }) (o := { cls := .type "cell", data := .cell none }) rfl
      rw [Heap.size_push] at e
      exact e
    refine wpAny_bind (wpAny_bind (wpAny_bind (wpAny_storeName_cell S.kind hk (by show List.lookup x ((x, s.heap.objs.size + 1) :: cl) = _; rw [List.lookup_cons_self]) hc0 fun h2 c2 sb2 => ?_)))
    refine wpAny_pure ?_
    simp only [List.forIn_nil]
    refine wpAny_pure (wpAny_pure ?_)
    have up : ∀ b o, b ≠ s.heap.objs.size + 1 → (s.heap.push { cls := .type "frame", data := .dict #[] }).get? b = some o → h2.get? b = some o := fun b o hb e => (sb2.2 b hb).trans (Heap.get?_push_of_some _ e)
    refine hQ h2 (fun _ => none) (fun b o e => up b o (Nat.ne_of_lt (Nat.lt_succ_of_lt (Heap.lt_size e))) (k0 b o e)) ?_ (fun z => by cases z) (fun _ => c2) s.toks
    exact n0.at fun o e => up _ o (Nat.ne_of_lt (Nat.lt_succ_self _)) e
/-- the context of the lambda's body -/
def lcx (P : Program) (w : World) (K : PySem.W.Frag) (mg : Str → Option Value) (base : Heap) (N : List Str) (env : Env) (A : Around) (outer : List Env) (s : Shared) (H : Hp) : Cx where
  prog := P
  w := w
  K := K
  mg := mg
  base := base
  A := A.deeper env
  N := N
  s_0 := s
  H_0 := H
  env := env
  outer := outer
  stack := env :: outer
  ex := []
  fn := fun _ => false
  calm := true
  pn := []
  xe := fun _ _ => False
section
variable {P : Program} {w : World} {K : PySem.W.Frag} {mg : Str → Option Value} {base : Heap} {N : List Str} {x : Str} {fr : List Str} {sc : Scope} {cel : Bool} {cl : List (Str × Addr)} {qual : Str} {f c' : Addr} {A : Around} {outer : List Env} {s : Shared} {H : Hp} {v : V} {u : Value} {ws : List (Option V)}
theorem inv_lam {h₁ : Heap} {m : Str → Option Value} {tk : Nat} (S : LScope N x fr sc cel) (hd : A.handled = none) (e0 : Env0 P w K mg base A outer s H) (r : L2.RelV v u) (C : CellsAt cl fr ws s.heap H) (hcl : ∀ y c, cl.lookup y = some c → y ∈ fr)
    (kp : ∀ b o, s.heap.get? b = some o → h₁.get? b = some o) (hns : h₁.Ns s.heap.objs.size m) (hm : cel = false → m x = some u) (hc : cel = true → h₁.IsCell (s.heap.objs.size + 1) (some u)) :
    L2.Inv (lcx P w K mg base N (lenv qual sc x cel s.heap.objs.size f c' cl) A outer s H) [] (startF N [v] ws) H { s with heap := h₁, toks := tk } := by
  have hpl : 1 + fr.length ≤ N.length := by
    have q := congrArg List.length S.pre
    rw [List.length_take, List.length_cons] at q
    omega
  have noA : ∀ b : Addr, b ∉ (lcx P w K mg base N (lenv qual sc x cel s.heap.objs.size f c' cl) A outer s H).ex := fun b z => absurd (show b ∈ ([] : List Addr) from z) (by simp)
  have cellK : ∀ {c : Addr} {v : Option Value}, s.heap.IsCell c v → h₁.IsCell c v := fun {c v} ⟨o, ho, hd⟩ => ⟨o, kp _ _ ho, hd⟩
  have lk : ∀ {y c}, (lcells x cel s.heap.objs.size cl).lookup y = some c → (cel = true ∧ y = x ∧ c = s.heap.objs.size + 1) ∨ (y ∈ fr ∧ cl.lookup y = some c) := fun {y c} e => by
    cases cel with
    | false => exact .inr ⟨hcl y c e, e⟩
    | true =>
      have e : List.lookup y ((x, s.heap.objs.size + 1) :: cl) = some c := e
      rw [List.lookup_cons] at e
      split at e
      · rename_i q
        exact .inl ⟨rfl, by simpa using q, (Option.some.inj e).symm⟩
      · exact .inr ⟨hcl y c e, e⟩
  have lkx : cel = true → (lcells x cel s.heap.objs.size cl).lookup x = some (s.heap.objs.size + 1) := fun e => by
    subst e
    show List.lookup x ((x, s.heap.objs.size + 1) :: cl) = _
    rw [List.lookup_cons_self]
  have lkf : ∀ {y c}, y ∈ fr → cl.lookup y = some c → (lcells x cel s.heap.objs.size cl).lookup y = some c := fun {y c} hy e => by
    cases cel with
    | false => exact e
    | true =>
      show List.lookup y ((x, s.heap.objs.size + 1) :: cl) = some c
      rw [List.lookup_cons]
      have : (y == x) = false := by
        simp only [beq_eq_false_iff_ne, ne_eq]
        exact fun z => S.nx (z ▸ hy)
      rw [this]
      exact e
  have ltc : ∀ {y c}, cl.lookup y = some c → c < s.heap.objs.size := fun {y c} e => by
    obtain ⟨_, v, z⟩ := C.all y c e
    exact z.lt
  refine ⟨⟨e0.mod, S.kind, rfl, rfl, Nat.le_refl _, fun y z c e1 e2 => ?_, fun y hy => ?_, fun y c z _ => ?_, fun _ => hd, Around.frames_deeper e0.frames, .inr ⟨rfl, rfl⟩, fun b z => absurd z (noA b), e0.bs, e0.bsz, fun b _ _ => noA b,
      fun b z => absurd z (noA b), e0.funs, e0.frf⟩,
    rfl, e0.bare, Un.kept kp, ⟨_, hns, fun i y v' e1 e2 e3 => ?_⟩, fun y c e => ?_, e0.hok.fresh (Nat.le_refl _), fun y c e => ?_, fun q hq => absurd (show q ∈ ([] : List (Addr × Obj)) ++ [] from hq) (by simp), e0.hok.kept kp, ?_⟩
  · rcases lk e1 with ⟨_, h1, h2⟩ | ⟨_, h1⟩ <;> rcases lk e2 with ⟨_, h3, h4⟩ | ⟨_, h3⟩
    · rw [h1, h3]
    · have := ltc h3
      rw [h2] at this
      exact absurd (Nat.lt_of_succ_lt this) (Nat.lt_irrefl _)
    · have := ltc h1
      rw [h4] at this
      exact absurd (Nat.lt_of_succ_lt this) (Nat.lt_irrefl _)
    · exact C.inj y z c h1 h3
  · have hy : sc.names.lookup y = some .cell ∨ sc.names.lookup y = some .free := hy
    rcases hy with hy | hy
    · obtain ⟨h1, h2⟩ := S.cel1 y hy
      rw [h1]
      exact ⟨_, lkx h2⟩
    · have hf := S.free _ (PySem.mem_of_lookup hy) rfl
      obtain ⟨i, hi⟩ := List.mem_iff_getElem?.mp hf
      obtain ⟨c, hc, _⟩ := C.has i y hi
      exact ⟨c, lkf hf hc⟩
  · have z : false = true := z
    cases z
  · have e1 : N[i]? = some y := e1
    have clen := C.len
    unfold startF at e2
    have hq : ∀ j, j < 1 + fr.length → N[j]? = (x :: fr)[j]? := fun j hj => by rw [← S.pre, List.getElem?_take_of_lt hj]
    cases i with
    | zero =>
      rw [hq 0 (by omega)] at e1
      obtain rfl : x = y := by simpa using e1
      obtain rfl : v = v' := by simpa using e2
      refine ⟨u, r, ?_⟩
      cases hcel : cel with
      | false =>
        refine .inl ⟨?_, hm hcel⟩
        have := S.par
        rw [hcel, if_neg (by decide)] at this
        exact this
      | true =>
        refine .inr ⟨.inl ?_, s.heap.objs.size + 1, ?_, hc hcel⟩
        · have := S.par
          rw [hcel, if_pos rfl] at this
          exact this
        · have := lkx hcel
          rw [hcel] at this
          exact this
    | succ i =>
      rw [List.map_cons, List.map_nil, List.singleton_append, List.getElem?_cons_succ] at e2
      by_cases h2 : i < fr.length
      · rw [hq (i + 1) (by omega), List.getElem?_cons_succ] at e1
        rw [List.getElem?_append_left (by omega)] at e2
        obtain ⟨c, hc, hv⟩ := C.has i y e1
        obtain ⟨u', ru, hu⟩ := hv v' e2
        have hf := List.mem_of_getElem? e1
        exact ⟨u', ru, .inr ⟨.inr (S.frk y hf), c, lkf hf hc, cellK hu⟩⟩
      · rw [List.getElem?_append_right (by omega), List.getElem?_replicate] at e2
        split at e2 <;> cases e2
  · rcases lk e with ⟨h1, h2, h3⟩ | ⟨_, h1⟩
    · rw [h3]
      exact ⟨_, hc h1⟩
    · obtain ⟨v, z⟩ := (C.all y c h1).2
      exact ⟨v, cellK z⟩
  · rcases lk e with ⟨h1, h2, h3⟩ | ⟨_, h1⟩
    · rw [h3]
      exact e0.hok.fresh (Nat.le_succ _)
    · exact (C.all y c h1).1
  · have clen := C.len
    unfold startF
    show _ = N.length
    rw [List.length_append, List.length_append, List.length_map, List.length_replicate, List.length_singleton]
    omega
end
end Cl
end
section
set_option maxHeartbeats 4000000
/-! What a handed lambda promises; tracking it and its cells. -/
namespace Cl
open PySem PySem.Spec PyProof.Rows L2 LamX NdefX
/-- the objects at S out of sight -/
def hid (S : List Addr) (H : Hp) : Hp := fun b => if b ∈ S then none else H b
/-- those at S as in H', the others as in H -/
def ovr (S : List Addr) (H' H : Hp) : Hp := fun b => if b ∈ S then H' b else H b
theorem hid_in {S : List Addr} {H : Hp} {b : Addr} (h : b ∈ S) : hid S H b = none := if_pos h
theorem hid_out {S : List Addr} {H : Hp} {b : Addr} (h : b ∉ S) : hid S H b = H b := if_neg h
theorem ovr_in {S : List Addr} {H' H : Hp} {b : Addr} (h : b ∈ S) : ovr S H' H b = H' b := if_pos h
theorem ovr_out {S : List Addr} {H' H : Hp} {b : Addr} (h : b ∉ S) : ovr S H' H b = H b := if_neg h
theorem hid_some {S : List Addr} {H : Hp} {b : Addr} {o : HO} (h : hid S H b = some o) : b ∉ S ∧ H b = some o := by
  by_cases hb : b ∈ S
  · rw [hid_in hb] at h; cases h
  · rw [hid_out hb] at h; exact ⟨hb, h⟩
/-- all at S are kept as they are -/
def Trk (S : List Addr) (H : Hp) : Prop := ∀ b ∈ S, ∃ o, H b = some (.frz o (.own 0))
theorem Trk.ext {S : List Addr} {H H' : Hp} (t : Trk S H) (e : Ex H H') : Trk S H' := fun b hb => by
  obtain ⟨o, h⟩ := t b hb
  exact ⟨o, e _ _ h⟩
theorem Trk.ne {S : List Addr} {H : Hp} (t : Trk S H) {b : Addr} {o : HO} (h : H b = some o) (n : ∀ o1 u, o ≠ .frz o1 u) : b ∉ S := fun hb => by
  obtain ⟨o1, e⟩ := t b hb
  rw [h] at e
  exact n o1 _ (Option.some.inj e)
/-- what is no kept thing is as in H -/
def Unf (H H' : Hp) : Prop := ∀ b o, H b = some o → (∀ o1 u, o ≠ .frz o1 u) → H' b = some o
section
variable {P : Program} {w : World} {K : PySem.W.Frag} {mg : Str → Option Value} {base : Heap} {A : Around} {outer : List Env} {s : Shared} {H H' : Hp} {S : List Addr}
theorem hok_hid {h : Heap} (t : Trk S H) (ok : HOk P w H h) : HOk P w (hid S H) h := fun b u e => by
  obtain ⟨hb, e⟩ := hid_some e
  refine (ok b u e).stay (fun _ _ _ z => z) (fun c q => ?_) fun c xs q => ?_
  · rw [hid_out (t.ne q fun _ _ z => by cases z)]; exact q
  · rw [hid_out (t.ne q fun _ _ z => by cases z)]; exact q
theorem env0_hid (t : Trk S H) (e0 : Env0 P w K mg base A outer s H) : Env0 P w K mg base A outer s (hid S H) :=
  ⟨e0.frames, e0.mod, fun b o e => ⟨(e0.bs b o e).1, by
    by_cases hb : b ∈ S
    · exact hid_in hb
    · rw [hid_out hb]; exact (e0.bs b o e).2⟩, e0.bsz, e0.funs, fun b hb => by
    by_cases h : b ∈ S
    · exact hid_in h
    · rw [hid_out h]; exact e0.frf b hb, hok_hid t e0.hok, e0.bare⟩
/-- back into sight -/
theorem un_ovr {fs : List Addr} {h h' : Heap} {H2 : Hp} (t : Trk S H) (ok : HOk P w H h) (nf : ∀ b ∈ fs, H b = none) (u : Un fs [] (hid S H) H2 h h') (ok2 : HOk P w H2 h') : Un fs [] H (ovr S H H2) h h' ∧ HOk P w (ovr S H H2) h' ∧ (∀ b ∈ S, H2 b = none) := by
  have nS : ∀ b, H b = none → b ∉ S := fun b e hb => by
    obtain ⟨o, z⟩ := t b hb
    rw [e] at z; cases z
  have kS : ∀ b ∈ S, ∃ o, H b = some (.frz o (.own 0)) ∧ h.get? b = some o ∧ h'.get? b = some o := fun b hb => by
    obtain ⟨o, z⟩ := t b hb
    have g : h.get? b = some o := (ok b _ z).1
    refine ⟨o, z, g, u.keep b o g (hid_in hb) (fun q => ?_) (by simp)⟩
    rw [nf b q] at z; cases z
  have out : ∀ b ∈ S, H2 b = none := fun b hb => by
    obtain ⟨o, z, g, _⟩ := kS b hb
    exact u.free b o g (hid_in hb) (by simp)
  have notS : ∀ b o, H2 b = some o → b ∉ S := fun b o e hb => by rw [out b hb] at e; cases e
  refine ⟨⟨fun b o e n hb hx => ?_, fun b o e n hb hx => ?_, fun b o e n hx => ?_, fun b o e hx => u.there b o e hx, fun b xs e => ?_, fun b o v e => ?_, fun b ps e => ?_⟩, fun b v e => ?_, out⟩
  · exact u.keep b o e (by rw [hid_out (nS b n)]; exact n) hb hx
  · exact u.slot b o e (by rw [hid_out (nS b n)]; exact n) hb hx
  · rw [ovr_out (nS b n)]
    exact u.free b o e (by rw [hid_out (nS b n)]; exact n) hx
  · have hb := t.ne e fun _ _ z => by cases z
    rw [ovr_out hb]
    exact u.tups b xs (by rw [hid_out hb]; exact e)
  · by_cases hb : b ∈ S
    · rw [ovr_in hb]; exact e
    · rw [ovr_out hb]
      exact u.frzs b o v (by rw [hid_out hb]; exact e)
  · have hb := t.ne e fun _ _ z => by cases z
    obtain ⟨more, z⟩ := u.tbls b ps (by rw [hid_out hb]; exact e)
    exact ⟨more, by rw [ovr_out hb]; exact z⟩
  · by_cases hb : b ∈ S
    · rw [ovr_in hb] at e
      obtain ⟨o, z, g, g'⟩ := kS b hb
      rw [z] at e; cases e
      exact ⟨g', o, g'⟩
    · rw [ovr_out hb] at e
      refine (ok2 b v e).stay (fun _ _ _ z => z) (fun c q => ?_) fun c xs q => ?_
      · rw [ovr_out (notS c _ q)]; exact q
      · rw [ovr_out (notS c _ q)]; exact q
/-- a lambda that was handed on: called with a place it answers φ there -/
def CloOk (P : Program) (w : World) (K : PySem.W.Frag) (mg : Str → Option Value) (base : Heap) (k : Nat) (H : Hp) (u : V) (φ : Int → Int → V) : Prop :=
  ∃ f, u = .ref f ∧ (∀ (h : Heap) (H' : Hp), HOk P w H' h → (∀ b o, base.get? b = some o → h.get? b = some o) → Ex H H' → PySem.W.FnAt f h) ∧
    ∀ (A : Around) (outer : List Env) (s : Shared) (H' : Hp) (t : Addr) (x y : Int), Room k A → Env0 P w K mg base A outer s H' → Ex H H' → H' t = some (.tup [.int x, .int y]) →
      codeAny (model P w) A (.call (.ref f) ⟨[.ref t], []⟩) (CR C0 outer P w H' s (fun v H'' => Ex H' H'' ∧ v = φ x y) EN) s
theorem CloOk.ext {k : Nat} {u : V} {φ : Int → Int → V} (c : CloOk P w K mg base k H u φ) (e : Ex H H') : CloOk P w K mg base k H' u φ := by
  obtain ⟨f, h1, h2, h3⟩ := c
  exact ⟨f, h1, fun h H2 a b d => h2 h H2 a b (e.trans d), fun A outer s H2 t x y a b d => h3 A outer s H2 t x y a b (e.trans d)⟩
end
section
variable {X : Cx} {i j k : Nat} {x y : Str} {p1 p2 p3 : Pos}
/-- x(y), x a name that holds such a lambda, y one that holds a place -/
theorem pe_clo {e : Expr} {te : TE} (hr : Room k X.A) (hN : X.N[i]? = some x) (hv : Vis X.env.scope x) (ha : PE X e te)
    (hdb : (x == ("__debug__" : Str)) = false := by decide) (hcd : (x == ("__classdict__" : Str)) = false := by decide) (he : starEach [e] X.env = (false, eval e X.env) :: starEach [] X.env := by rfl) :
    PE X (.Call (.Name x p1) [e] [] p3) (fun σ H Q => ∃ u φ, σ[i]? = some (some u) ∧ CloOk X.prog X.w X.K X.mg X.base k H u φ ∧ te σ H fun z H1 => ∃ t a b, z = .ref t ∧ Ex H H1 ∧ H1 t = some (.tup [.int a, .int b]) ∧ ∀ H2, Ex H1 H2 → Q (φ a b) H2) := by
  refine ⟨fun pins s σ H Q I h => ?_⟩
  obtain ⟨u, φ, hu, hc, h⟩ := h
  refine wpAny_Call_Name_kw (thn ((pe_var (pos := p1) (i := i) hN hv hdb hcd).run pins s σ H (fun v H1 => v = u ∧ H1 = H) I ⟨u, hu, rfl, rfl⟩) fun uv s1 ⟨v, H1, I1, r1, q1⟩ => ?_)
  obtain ⟨rfl, rfl⟩ := q1
  obtain ⟨f, rfl, c1, c2⟩ := hc
  obtain rfl : uv = Value.ref f := r1
  refine PySem.W.callWith_F (c1 _ _ I1.hok I1.bk (Ex.refl _)) ?_ he rfl
  rw [he]
  show wpAny _ _ (spliced ((false, eval e X.env) :: backTo p3 (starEach [] X.env))) _ _ s1
  refine Calls.spliced_cons (thn (ha.run pins s1 σ H1 _ I1 h) fun w s2 ⟨z, H2, I2, rz, t, a, b, ez, e2, ht, q⟩ => ?_)
  subst ez
  obtain rfl : w = Value.ref t := rz
  refine Calls.spliced_nil ⟨c1 _ _ I2.hok I2.bk e2, ?_⟩
  refine wpAny_call (codeAny_mono (c2 X.A X.stack s2 H2 t a b hr I2.env0 e2 ht) fun r s' hq => ?_)
  cases r with
  | error e => exact (show False from hq).elim
  | ok fl =>
    cases fl with
    | ret u =>
      refine I2.after (Q := Q) ?_
      obtain ⟨v, H3, o1, o2, o3, o4, o5, o6, rfl⟩ := hq
      exact ⟨_, H3, o1, o2, o3, o4, o5, q H3 o6⟩
    | next => exact False.elim hq
    | brk => exact False.elim hq
    | cont => exact False.elim hq
/-- the cells and the lambda, tracked -/
def trk (S : List Addr) (h : Heap) (H : Hp) : Hp := fun b => if b ∈ S then (h.get? b).map fun o => .frz o (.own 0) else H b
section
variable {pins : List (Addr × Obj)} {σ : L2.St} {H : Hp} {s : Shared} {S : List Addr}
theorem trk_ext (hn : ∀ b ∈ S, H b = none) : Ex H (trk S s.heap H) := fun b o e => by
  have hb : b ∉ S := fun z => by rw [hn b z] at e; cases e
  unfold trk
  rw [if_neg hb]; exact e
theorem trk_trk (hg : ∀ b ∈ S, ∃ o, s.heap.get? b = some o) : Trk S (trk S s.heap H) := fun b hb => by
  obtain ⟨o, e⟩ := hg b hb
  refine ⟨o, ?_⟩
  unfold trk
  rw [if_pos hb, e]; rfl
theorem trk_hid (hn : ∀ b ∈ S, H b = none) : hid S (trk S s.heap H) = H := by
  funext b
  by_cases hb : b ∈ S
  · rw [hid_in hb, hn b hb]
  · rw [hid_out hb]; unfold trk; rw [if_neg hb]
/-- what a callee wants, the tracked ones in sight -/
theorem trk_env0 (I : Inv X pins σ H s) (hn : ∀ b ∈ S, H b = none) (hg : ∀ b ∈ S, ∃ o, s.heap.get? b = some o) (hb : ∀ b ∈ S, X.base.get? b = none) (hf : ∀ b ∈ S, b ∉ frs X.stack) : Env0 X.prog X.w X.K X.mg X.base X.A X.stack s (trk S s.heap H) := by
  have e0 := I.env0
  refine ⟨e0.frames, e0.mod, fun b o e => ⟨(e0.bs b o e).1, ?_⟩, e0.bsz, e0.funs, fun b h => ?_, fun b o e => ?_, e0.bare⟩
  · have : b ∉ S := fun z => by rw [hb b z] at e; cases e
    unfold trk
    rw [if_neg this]; exact (e0.bs b o e).2
  · have : b ∉ S := fun z => hf b z h
    unfold trk
    rw [if_neg this]; exact e0.frf b h
  · have ex := trk_ext (s := s) hn
    by_cases z : b ∈ S
    · unfold trk at e
      rw [if_pos z] at e
      obtain ⟨u, hu⟩ := hg b z
      rw [hu] at e
      cases e
      exact ⟨hu, u, hu⟩
    · unfold trk at e
      rw [if_neg z] at e
      exact (I.hok b o e).stay (fun _ _ _ w => w) (fun c q => ex _ _ q) fun c xs q => ex _ _ q
/-- behind the callee: out of sight again -/
theorem trk_back {Q : VK} {u : Value} {s' : Shared} (I : Inv X pins σ H s) (hn : ∀ b ∈ S, H b = none) (hg : ∀ b ∈ S, ∃ o, s.heap.get? b = some o)
    (h : CE X.stack X.prog X.w (trk S s.heap H) s (fun r H' => Ex (trk S s.heap H) H' ∧ ∀ H3, Ex H H3 → Unf H' H3 → Q r H3) u s') : EP X pins σ Q u s' := by
  obtain ⟨v, H', o1, o2, o3, o4, o5, o6, o7⟩ := h
  have t := trk_trk (H := H) hg
  have ex := trk_ext (s := s) hn
  have t' : Trk S H' := t.ext o6
  have nS : ∀ b o, H b = some o → b ∉ S := fun b o e hb => by rw [hn b hb] at e; cases e
  have toN : ∀ b, b ∉ S → trk S s.heap H b = H b := fun b hb => by unfold trk; rw [if_neg hb]
  have un : Un (frs X.stack) [] H (hid S H') s.heap s'.heap := by
    refine ⟨fun b o e n hb hx => ?_, fun b o e n hb hx => ?_, fun b o e n hx => ?_, fun b o e hx => o3.there b o e hx, fun b xs e => ?_, fun b o v e => ?_, fun b ps e => ?_⟩
    · by_cases z : b ∈ S
      · have e1 : trk S s.heap H b = some (.frz o (.own 0)) := by unfold trk; rw [if_pos z, e]; rfl
        exact (o4 b _ (o3.frzs b _ _ e1)).1
      · exact o3.keep b o e (by rw [toN b z]; exact n) hb hx
    · by_cases z : b ∈ S
      · have e1 : trk S s.heap H b = some (.frz o (.own 0)) := by unfold trk; rw [if_pos z, e]; rfl
        exact ⟨o.slots, (o4 b _ (o3.frzs b _ _ e1)).1⟩
      · exact o3.slot b o e (by rw [toN b z]; exact n) hb hx
    · by_cases z : b ∈ S
      · exact hid_in z
      · rw [hid_out z]
        exact o3.free b o e (by rw [toN b z]; exact n) hx
    · have z := nS _ _ e
      rw [hid_out z]
      exact o3.tups b xs (by rw [toN b z]; exact e)
    · have z := nS _ _ e
      rw [hid_out z]
      exact o3.frzs b o v (by rw [toN b z]; exact e)
    · have z := nS _ _ e
      rw [hid_out z]
      exact o3.tbls b ps (by rw [toN b z]; exact e)
  refine I.after (Q := Q) ⟨v, hid S H', o1, o2, un, hok_hid t' o4, o5, o7 _ (fun b o e => ?_) fun b o e n => ?_⟩
  · rw [hid_out (nS _ _ e)]
    exact o6 _ _ (ex _ _ e)
  · rw [hid_out (t'.ne e n)]; exact e
end
end
end Cl
end
section
set_option maxHeartbeats 4000000
/-! g(e, lambda x: ..) -/
namespace Cl
open PySem PySem.Spec PyProof.Rows L2 LamX NdefX
theorem clo_in {cells : List (Str × Addr)} {names : List (Str × NameKind)} {y : Str} {c : Addr} (e : (cloFrom cells names []).lookup y = some c) : (y, NameKind.free) ∈ names := by
  rcases cloFrom_mem (PySem.mem_of_lookup e) with hm | ⟨h1, _⟩
  · cases hm
  · exact h1
section
variable {X : Cx} {pins : List (Addr × Obj)} {σ : L2.St} {H : Hp} {s : Shared} {N : List Str} {x : Str} {fr : List Str} {sc : Scope} {cel : Bool} {js : List Nat} {k : Nat}
/-- the lambda and its cells but those of the base -/
def lamS (base : Heap) (f : Addr) (cl : List (Str × Addr)) : List Addr := (f :: cl.map (·.2)).filter fun b => (base.get? b).isNone
theorem lamS_base {base : Heap} {f : Addr} {cl : List (Str × Addr)} : ∀ b ∈ lamS base f cl, base.get? b = none := fun b hb => by
  have := (List.mem_filter.mp hb).2
  simpa using this
theorem lam_clo {qual : Str} {params : Arguments} {body : Expr} {pm ctv : Value} {f c' : Addr} {tb : TE} {φ : Int → Int → V} (I : Inv X pins σ H s) (S : LScope N x fr sc cel) (cp : Caps X (cloFrom X.env.cells sc.names []) fr js)
    (hf : s.heap.get? f = some (PySem.W.kla_obj "<lambda>" qual params body sc (cloFrom X.env.cells sc.names []) pm c' ctv)) (hfn : H f = none) (hco : H c' = some (CodeO c' qual))
    (hbind : ∀ u : Value, bindArgs (PySem.W.kla_fn "<lambda>" qual params body sc (cloFrom X.env.cells sc.names []) pm (.ref c') ctv) ⟨[u], []⟩ = pure [(x, u)])
    (hbody : ∀ (A : Around) (outer : List Env) (s : Shared) (H : Hp), Room k (A.deeper (lenv qual sc x cel s.heap.objs.size f c' (cloFrom X.env.cells sc.names []))) → PE (lcx X.prog X.w X.K X.mg X.base N (lenv qual sc x cel s.heap.objs.size f c' (cloFrom X.env.cells sc.names [])) A outer s H) body tb)
    (hφ : ∀ t a b HL, Ex H HL → HL t = some (.tup [.int a, .int b]) → tb (startF N [.ref t] (js.map (slotAt σ))) HL fun v H2 => Ex HL H2 ∧ v = φ a b) :
    (∀ b ∈ lamS X.base f (cloFrom X.env.cells sc.names []), H b = none) ∧ (∀ b ∈ lamS X.base f (cloFrom X.env.cells sc.names []), ∃ o, s.heap.get? b = some o) ∧
      CloOk X.prog X.w X.K X.mg X.base (k + 1) (trk (lamS X.base f (cloFrom X.env.cells sc.names [])) s.heap H) (.ref f) φ := by
  have C := cells_of I cp
  generalize hS : lamS X.base f (cloFrom X.env.cells sc.names []) = T
  have memS : ∀ b, (b = f ∨ ∃ y, (cloFrom X.env.cells sc.names []).lookup y = some b) → X.base.get? b = none → b ∈ T := fun b hb hn => by
    rw [← hS]
    refine List.mem_filter.mpr ⟨?_, by rw [hn]; rfl⟩
    rcases hb with rfl | ⟨y, hy⟩
    · exact List.mem_cons_self ..
    · exact List.mem_cons_of_mem _ (List.mem_map.mpr ⟨(y, b), PySem.mem_of_lookup hy, rfl⟩)
  have ofS : ∀ b ∈ T, b = f ∨ ∃ y, (y, b) ∈ cloFrom X.env.cells sc.names [] := fun b hb => by
    rw [← hS] at hb
    rcases List.mem_cons.mp (List.mem_filter.mp hb).1 with z | z
    · exact .inl z
    · obtain ⟨⟨y, c⟩, h1, h2⟩ := List.mem_map.mp z
      exact .inr ⟨y, by rw [← h2]; exact h1⟩
  have hfree : ∀ y c, (y, c) ∈ cloFrom X.env.cells sc.names [] → X.env.cells.lookup y = some c := fun y c hm => by
    rcases cloFrom_mem hm with hm | ⟨h1, h2⟩
    · cases hm
    · have hy := S.free _ h1 rfl
      obtain ⟨c1, e1⟩ : ∃ c, X.env.cells.lookup y = some c := (cp.kin y hy).elim (fun z => I.ok.has y (.inl z)) fun z => I.ok.has y (.inr z)
      have h2 : c = (X.env.cells.lookup y).getD 0 := h2
      rw [e1] at h2 ⊢
      rw [h2]; rfl
  have hn : ∀ b ∈ T, H b = none := fun b hb => by
    rcases ofS b hb with rfl | ⟨y, hy⟩
    · exact hfn
    · exact I.freeC y b (hfree y b hy)
  have hg : ∀ b ∈ T, ∃ o, s.heap.get? b = some o := fun b hb => by
    rcases ofS b hb with rfl | ⟨y, hy⟩
    · exact ⟨_, hf⟩
    · obtain ⟨v, o, ho, _⟩ := I.cell y b (hfree y b hy)
      exact ⟨o, ho⟩
  refine ⟨hn, hg, f, rfl, fun h H' ok bk e => ?_, fun A outer s2 H' t a b hr e0 e ht => ?_⟩
  · by_cases hb : X.base.get? f = none
    · have hm := memS f (.inl rfl) hb
      have e1 : trk T s.heap H f = some (.frz (PySem.W.kla_obj "<lambda>" qual params body sc (cloFrom X.env.cells sc.names []) pm c' ctv) (.own 0)) := by unfold trk; rw [if_pos hm, hf]; rfl
      have z := (ok f _ (e _ _ e1)).1
      exact ⟨_, _, _, _, z⟩
    · obtain ⟨o, ho⟩ := Option.ne_none_iff_exists'.mp hb
      have e1 := I.bk _ _ ho
      rw [hf] at e1
      cases e1
      exact ⟨_, _, _, _, bk _ _ ho⟩
  have tT : Trk T H' := (trk_trk hg).ext e
  have exH : Ex H (trk T s.heap H) := trk_ext hn
  have same : ∀ b o, (b = f ∨ ∃ y, (cloFrom X.env.cells sc.names []).lookup y = some b) → s.heap.get? b = some o → s2.heap.get? b = some o := fun b o hb ho => by
    by_cases hbase : X.base.get? b = none
    · have hm := memS b hb hbase
      have e1 : trk T s.heap H b = some (.frz o (.own 0)) := by unfold trk; rw [if_pos hm, ho]; rfl
      exact (e0.hok b _ (e _ _ e1)).1
    · obtain ⟨o', ho'⟩ := Option.ne_none_iff_exists'.mp hbase
      have e1 := I.bk _ _ ho'
      rw [ho] at e1
      cases e1
      exact (e0.bs _ _ ho').1
  have nS : ∀ b o, H b = some o → b ∉ T := fun b o e hb => by rw [hn b hb] at e; cases e
  have exU : Ex H (hid T H') := fun b o q => by
    rw [hid_out (nS _ _ q)]
    exact e _ _ (exH _ _ q)
  have htU : hid T H' t = some (.tup [.int a, .int b]) := by
    rw [hid_out (tT.ne ht fun _ _ z => by cases z)]; exact ht
  have e1 := env0_hid tT e0
  have C2 : CellsAt (cloFrom X.env.cells sc.names []) fr (js.map (slotAt σ)) s2.heap (hid T H') := by
    refine ⟨C.len, fun y c hy => ?_, C.inj, fun i y hy => ?_⟩
    · obtain ⟨_, v, o, ho, hd⟩ := C.all y c hy
      refine ⟨?_, v, o, same c o (.inr ⟨y, hy⟩) ho, hd⟩
      by_cases hbase : X.base.get? c = none
      · exact hid_in (memS c (.inr ⟨y, hy⟩) hbase)
      · obtain ⟨o', ho'⟩ := Option.ne_none_iff_exists'.mp hbase
        by_cases hm : c ∈ T
        · exact hid_in hm
        · rw [hid_out hm]; exact (e0.bs _ _ ho').2
    · obtain ⟨c, hc, hv⟩ := C.has i y hy
      refine ⟨c, hc, fun v hv' => ?_⟩
      obtain ⟨u, r, o, ho, hd⟩ := hv v hv'
      exact ⟨u, r, o, same c o (.inr ⟨y, hc⟩) ho, hd⟩
  refine PySem.W.kla_callFunE hr.depth (same f _ (.inl rfl) hf) rfl S.co S.gen rfl (codeO_at e0.hok (e _ _ (exH _ _ hco))) ?_
  rw [hbind]
  refine wpAny_pure ?_
  refine lam_env S fun h₁ m kp hns hm hc tk => ?_
  have I1 := inv_lam (P := X.prog) (w := X.w) (K := X.K) (mg := X.mg) (base := X.base) (qual := qual) (f := f) (c' := c') (cl := cloFrom X.env.cells sc.names []) (tk := tk) (v := .ref t) (u := .ref t) S hr.hd e1 rfl C2 (fun y c hy => S.free _ (clo_in hy) rfl) kp hns hm hc
  refine ⟨I1.nolimit, ?_⟩
  refine PySem.W.kla_codeExpr (wpAny_mono ((hbody A outer s2 (hid T H') (hr.deeper _)).run [] _ _ _ _ I1 (hφ t a b _ exU htU)) (fun v s' hq => ?_) fun e' s' hq => (show False from hq).elim)
  obtain ⟨v', H2, J, rv, eH2, ev⟩ := hq
  obtain ⟨u1, u2, u3⟩ := un_ovr (fs := frs outer) (H := H') tT e0.hok e0.frf J.base J.hok
  refine ⟨v', ovr T H' H2, J.os, J.bare, u1, u2, rv, fun b o q => ?_, ev⟩
  by_cases hb : b ∈ T
  · rw [ovr_in hb]; exact q
  · rw [ovr_out hb]
    exact eH2 _ _ (by rw [hid_out hb]; exact q)
end
end Cl
end
section
set_option maxHeartbeats 4000000
/-! g(e, lambda x: ..), the rule -/
namespace Cl
open PySem PySem.Spec PyProof.Rows L2 LamX NdefX
def tWov (P : Program) (w : World) (K : PySem.W.Frag) (mg : Str → Option Value) (base : Heap) (T : List (Addr × Str)) (k : Nat) (N : List Str) (js : List Nat) (sp : Sp) (te tb : TE) : TE := fun σ H Q => te σ H fun z H0 => Tabs T H0 ∧ ∀ H1, ExtN H0 H1 → Tabs T H1 →
  ∃ φ : Int → Int → V, (∀ t a b HL, Ex H1 HL → HL t = some (.tup [.int a, .int b]) → tb (startF N [.ref t] (js.map (slotAt σ))) HL fun v H2 => Ex HL H2 ∧ v = φ a b) ∧
    ∀ f H2, Ex H1 H2 → CloOk P w K mg base (k + 1) H2 (.ref f) φ → sp [z, .ref f] H2 (fun r H' => Ex H2 H' ∧ ∀ H3, Ex H1 H3 → Unf H' H3 → Q r H3) EN
section
variable {X : Cx} {N : List Str} {x y : Str} {fr : List Str} {sc : Scope} {cel : Bool} {js : List Nat} {k kk : Nat} {f c P : Addr} {T : List (Addr × Str)} {fd : FuncData} {ps : List Str} {sp : Sp} {params : Arguments} {body e : Expr} {te tb : TE} {p pos lpos : Pos}
theorem pe_wov (F : FnOk X.prog X.w X.K X.mg X.base C0 kk f fd ps sp) (hr : Room kk X.A) (hg : Gl X y) (hm : X.mg y = some (.ref f)) (hk : PySem.W.keepIn X.K (.ref f) = true) (hb : L2.Binds X.K fd ps []) (he : PE X e te)
    (TB : TabB X.base X.mg c P) (hcode : X.env.code = .ref c) (hmT : (P, X.env.qual ++ "<lambda>") ∈ T) (hu : ∀ p ∈ T, p.1 = P → p.2 = X.env.qual ++ "<lambda>") (hdef : defaultsOf params X.env = ([], [])) (S : LScope N x fr sc cel)
    (hfree : ∀ y ∈ sc.names, y.2 = .free → X.env.scope.names.lookup y.1 = some .cell ∨ X.env.scope.names.lookup y.1 = some .free) (hjs : js.map (fun j => X.N[j]?) = fr.map some)
    (hbind : ∀ (q : Str) (cl : List (Str × Addr)) (pm cv ctv u : Value), bindArgs (PySem.W.kla_fn "<lambda>" q params body sc cl pm cv ctv) ⟨[u], []⟩ = pure [(x, u)])
    (hbody : ∀ (A : Around) (outer : List Env) (s : Shared) (H : Hp) (f c' : Addr), Room k (A.deeper (lenv (X.env.qual ++ "<lambda>") sc x cel s.heap.objs.size f c' (cloFrom X.env.cells sc.names []))) →
      PE (lcx X.prog X.w X.K X.mg X.base N (lenv (X.env.qual ++ "<lambda>") sc x cel s.heap.objs.size f c' (cloFrom X.env.cells sc.names [])) A outer s H) body tb)
    (hall : ∀ y, X.fn y = true) (hdb : (y == ("__debug__" : Str)) = false := by decide) (hst : starEach [e, .Lambda params body sc lpos] X.env = (false, eval e X.env) :: starEach [.Lambda params body sc lpos] X.env := by rfl)
    (hpl : (backTo pos (starEach [.Lambda params body sc lpos] X.env)).any (·.1) = false := by rfl) :
    PE X (.Call (.Name y p) [e, .Lambda params body sc lpos] [] pos) (tWov X.prog X.w X.K X.mg X.base T k N js sp te tb) := by
  refine ⟨fun pins s σ H Q I h => ?_⟩
  have hcap : ∀ y ∈ fr, (y, NameKind.free) ∈ sc.names := fun y hy => PySem.mem_of_lookup (S.frk y hy)
  have cp := Caps.made I.ok hfree hcap hjs
  refine wpAny_Call_Name_kw (ld_glob I hg hm ?_ hdb)
  refine PySem.W.callWith_K (h₀ := X.base) I.ok.mod.kin hk ?_ hst hpl
  rw [hst]
  show wpAny _ _ (spliced ((false, eval e X.env) :: backTo pos (starEach [.Lambda params body sc lpos] X.env))) _ _ s
  refine Calls.spliced_cons (thn (he.run pins s σ H _ I h) fun u s1 ⟨z, H0, I1, rz, hT, q⟩ => ?_)
  show wpAny _ _ (spliced ((false, eval (.Lambda params body sc lpos) X.env) :: backTo pos (starEach [] X.env))) _ _ s1
  refine Calls.spliced_cons (lam_make2 I1 TB hcode hmT hu hT hdef (fun y hy e => (hfree y hy e).elim (fun z => I.ok.has _ (.inl z)) fun z => I.ok.has _ (.inr z)) fun f' c' pm' ctv H1 s' I2 eN T1 hf hfn hfr hco => ?_)
  obtain ⟨φ, h1, h2⟩ := q H1 eN T1
  obtain ⟨g1, g2, g3⟩ := lam_clo (k := k) I2 S cp hf hfn hco (fun u => hbind _ _ _ _ _ u) (fun A outer s H hr => hbody A outer s H f' c' hr) h1
  refine Calls.spliced_nil ⟨I2.kIn, ?_⟩
  have hfrs : ∀ b ∈ lamS X.base f' (cloFrom X.env.cells sc.names []), b ∉ frs X.stack := fun b hb hm => by
    rcases List.mem_cons.mp (List.mem_filter.mp hb).1 with z2 | z2
    · exact hfr (z2 ▸ hm)
    · obtain ⟨⟨n, d⟩, m1, m2⟩ := List.mem_map.mp z2
      have m2 : d = b := m2
      subst m2
      obtain ⟨c1, e1, e2⟩ : ∃ c, X.env.cells.lookup n = some c ∧ d = c := by
        rcases cloFrom_mem m1 with hm | ⟨h1, h2⟩
        · cases hm
        · have hy := S.free _ h1 rfl
          obtain ⟨c1, e1⟩ : ∃ c, X.env.cells.lookup n = some c := (cp.kin n hy).elim (fun z => I.ok.has n (.inl z)) fun z => I.ok.has n (.inr z)
          have h2 : d = (X.env.cells.lookup n).getD 0 := h2
          rw [e1] at h2
          exact ⟨c1, e1, h2⟩
      subst e2
      have up := I.ok.cab n d (hall n) e1
      rcases List.mem_cons.mp (I2.stkSub _ hm) with z3 | z3
      · exact I2.cne n d e1 z3
      · obtain ⟨_, o, ho, _⟩ := I2.ok.funs.mem z3
        exact absurd (Nat.lt_of_lt_of_le (Heap.lt_size ho) up) (Nat.lt_irrefl _)
  have e2 := trk_env0 I2 g1 g2 lamS_base hfrs
  refine wpAny_call (codeAny_mono (F.run X.A X.stack s' _ ⟨[u, .ref f'], []⟩ [u, .ref f'] [z, .ref f'] _ EN hr e2 (hb s' [u, .ref f'] I2.kIn (F.len _ _ _ _ (h2 f' _ (trk_ext g1) g3))) (.cons rz (.cons rfl .nil)) (h2 f' _ (trk_ext g1) g3)) fun r s3 hq => ?_)
  cases r with
  | error e => exact (show False from hq).elim
  | ok fl =>
    cases fl with
    | ret u => exact trk_back I2 g1 g2 hq
    | next => exact False.elim hq
    | brk => exact False.elim hq
    | cont => exact False.elim hq
end
end Cl
end
section
set_option maxHeartbeats 4000000
/-! Operators of the text's own classes. -/
namespace PySem.W
open Lean Elab Tactic Meta PySem PySem.Calls PyProof.Rows
section
variable {prog : Program} {w : World} {A : Around} {E : Value → Shared → Prop} {s : Shared} {K : Frag} {x y C D L f f2 : Addr} {h₀ : Heap} {m : Str → Option Value} {ox oy : Obj} {od od' : Option Obj}
/-- a op b, of two classes of which neither is below the other -/
theorem bin_two {op : Operator} {rc rc2 : Option Value} {Q : Value → Shared → Prop} (F : Fr h₀ L s.heap m) (X₀ : K.In h₀) (I : InstAt s.heap x ox C od) (J : InstAt s.heap y oy D od') (hcd : C ≠ D) (hc : selfFirst K C = true) (hd : selfFirst K D = true)
    (hs : findIn K (.ref C) (PySem.dunder op.info.2) = some (some (.ref f))) (hf : isFn K (.ref f) = true) (hr : findIn K (.ref C) (dunderR op.info.2) = some rc) (hp : rc = none ∨ ∃ g : Addr, rc = some (.ref g))
    (hs2 : findIn K (.ref D) (PySem.dunder op.info.2) = some (some (.ref f2))) (hr2 : findIn K (.ref D) (dunderR op.info.2) = some rc2) (hp2 : rc2 = none ∨ ∃ g : Addr, rc2 = some (.ref g)) (hsub : subIn K (.ref D) (.ref C) = some false)
    (h : wpAny (model prog w) A (call (.ref f) [.ref x, .ref y]) (CmpBack Q) E s) : wpAny (model prog w) A (binaryOp op (.ref x) (.ref y)) Q E s := by
  have X := X₀.keeps F.keep
  obtain ⟨c1, rest, hcd1, hm⟩ := ksp_first hc
  obtain ⟨c2, rest2, hcd2, hm2⟩ := ksp_first hd
  rcases hi : op.info with ⟨sym, nm'⟩
  rw [hi] at hs hr hs2 hr2
  dsimp only at hs hr hs2 hr2
  have one := ksp_try X I hs hf h
  obtain ⟨hh, g, d, tt, os⟩ := s
  have L1 : Looks (model prog w) hh (typeOf (.ref x)) (.ref C) := I.type
  have L2 : Looks (model prog w) hh (typeOf (.ref y)) (.ref D) := J.type
  have L3 : Looks (model prog w) hh (fillsNumberSlot (.ref C) nm') true := fills_K X hcd1 hm hs
  have L4 : Looks (model prog w) hh (fillsNumberSlot (.ref D) nm') true := fills_K X hcd2 hm2 hs2
  have L5 : Looks (model prog w) hh (isSubtype (.ref D) (.ref C)) false := looks_subIn X hsub
  have L6 : Looks (model prog w) hh (numberSlotInPython (.ref C) nm') true := ksp_inPy X hs hr hp
  have L7 : Looks (model prog w) hh (numberSlotInPython (.ref D) nm') true := ksp_inPy X hs2 hr2 hp2
  have hne : (Value.ref C == Value.ref D) = false := Bool.eq_false_iff.mpr fun q => hcd (by cases beq_iff_eq.mp q; rfl)
  simp only [binaryOp, hi]
  refine wpAny_holding (wpAny_bind ?_)
  unfold binaryOp1
  refine wpAny_bind (L1.at (wpAny_bind (L2.at (wpAny_bind (L3.at ?_)))))
  simp only [hne, Bool.false_eq_true, if_false]
  ksp_lk
  refine wpAny_mono one (fun r s' hr' => ?_) fun _ _ e => e
  obtain ⟨v, rfl, hq⟩ := hr'
  ksp_lk
  exact hq
theorem ne_bind (self : Value) : bindSpecial (.builtin "object.__ne__") self = pure (.builtin "object.__ne__", [self]) :=
  (Slot.of (T := "object") (name := "__ne__") (owner := "object") (n := "__ne__") (by rw [typeLookup_type, builtinLookup_eq_fast]; kernel_rfl) (by decide +kernel) (by decide +kernel) (by decide +kernel)
    (.inl (by decide +kernel)) (by rw [isSubtype_type]; kernel_rfl)).bind self
theorem ne_plain : plainId "object.__ne__" = true := by decide +kernel
theorem ifBoundB {M : Model} {name : Str} {id : String} {args : List Value} {Q : Option Value → Shared → Prop} (X : K.In s.heap) (I : InstAt s.heap x ox C od) (hs : findIn K (.ref C) name = some (some (.builtin id)))
    (hb : bindSpecial (.builtin id) (.ref x) = pure (.builtin id, [.ref x])) (h : wpAny M A (call (.builtin id) (.ref x :: args)) (fun v => Q (some v)) E s) : wpAny M A (callSpecialIfBound? (.ref x) name args) Q E s := by
  simp only [callSpecialIfBound?, bindSpecialIfBound?]
  refine wpAny_holding (wpAny_bind (wpAny_bind (wpAny_bind (I.type.here ((looks_findIn X hs).here ?_)))))
  refine wpAny_bind (wpAny_askSetting (wpAny_ite ?_))
  have fin : wpAny M A (call (.builtin id) ([.ref x] ++ args) >>= fun v => pure (some v)) Q E s := wpAny_bind (wpAny_mono h (fun v s' h' => wpAny_pure h') fun _ _ h' => h')
  simp only [hb]
  split
  · exact wpAny_bind (wpAny_pure (wpAny_pure fin))
  · exact wpAny_tryCatch (wpAny_bind (wpAny_pure (wpAny_pure fin)))
theorem ne_entry {Q : Fin → Shared → Prop} (X : K.In s.heap) (I : InstAt s.heap x ox C od) (hs : findIn K (.ref C) "__eq__" = some (some (.ref f))) (hf : isFn K (.ref f) = true) (hu : A.units < cLine)
    (h : wpAny (model prog w) A (call (.ref f) [.ref x, .ref y]) (fun v s' => ∃ b, v = .bool b ∧ Q (.done (.ret (.bool (!b)))) s') E s) : wpAny (model prog w) A (Builtin.«object.__ne__» ⟨[.ref x, .ref y], []⟩) Q E s := by
  unfold Builtin.«object.__ne__»
  repeat (first
    | with_reducible refine wpAny_cRoomFor hu ?_
    | (refine wpAny_bind (m := callSpecialIfBound? (.ref x) (Str.ofString "__eq__") [.ref y])
        (ifBound_K X I hs hf (wpAny_mono h (fun r s' hr => by
          obtain ⟨b, rfl, hq⟩ := hr
          repeat (first | exact hq | exact wpAny_pure hq | exact wpAny_truthy_bool hq | (refine wpAny_bind (m := truthy (.bool _)) (wpAny_truthy_bool ?_)) | wp_step)) fun _ _ e => e)))
    | wp_step)
/-- a != b of one class with the text's own ==, and no own != -/
theorem ne_own {Q : Value → Shared → Prop} (F' : Fr h₀ L s.heap m) (X₀ : K.In h₀) (I : InstAt s.heap x ox C od) (J : InstAt s.heap y oy C od') (hs : findIn K (.ref C) "__eq__" = some (some (.ref f))) (hf : isFn K (.ref f) = true)
    (hn : findIn K (.ref C) "__ne__" = some (some (.builtin "object.__ne__"))) (hob : subIn K (.ref C) (.type "object") = some true) (hu : A.units + 1 < cLine)
    (h : wpAny (model prog w) A.in1 (call (.ref f) [.ref x, .ref y]) (fun v s' => ∃ b, v = .bool b ∧ Q (.bool (!b)) s') E s) : wpAny (model prog w) A (richCompare .NotEq (.ref x) (.ref y)) Q E s := by
  have X := X₀.keeps F'.keep
  unfold richCompare
  simp only [oneThing_ref]
  refine wpAny_holding ?_
  refine wpAny_bind (wpAny_cRoomFor (Nat.lt_of_succ_lt hu) ?_)
  rw [show cmpInfo .NotEq = (("!=", "__ne__", "__ne__") : String × Str × Str) from rfl]
  dsimp only
  refine wpAny_bind (I.type.here (wpAny_bind (J.type.here ?_)))
  rw [show (Value.ref C != Value.ref C) = false from by simp]
  simp only [Bool.false_eq_true, if_false]
  refine wpAny_bind (wpAny_pure ?_)
  simp only [Bool.false_eq_true, if_false]
  have L1 : Looks (model prog w) s.heap (isInstance (.ref x) (.type "object")) true := I.type.andThen (looks_subIn X hob)
  have one : wpAny (model prog w) A (tryCompare (.ref x) "__ne__" (.ref y)) (fun r s' => ∃ b, r = some (.bool b) ∧ Q (.bool b) s') E s := by
    unfold tryCompare
    refine wpAny_bind (ifBoundB X I hn (ne_bind _) (wpAny_call (codeAny_call_builtin ne_plain F.cmpEntry_ne (check_slot F.cmpKind_ne F.cmpSplit_ne L1 (F.cmpArgs_ne _ _) (ne_entry X I hs hf hu (wpAny_mono h (fun v s' hv => ?_) fun _ _ e => e))))))
    obtain ⟨b, rfl, hq⟩ := hv
    exact ⟨_, rfl, wpAny_pure ⟨_, rfl, hq⟩⟩
  refine wpAny_bind (wpAny_mono one (fun r s' hr => ?_) fun _ _ e => e)
  obtain ⟨b, rfl, hq⟩ := hr
  first | exact wpAny_pure hq | exact wpAny_pure (wpAny_pure hq)
theorem cmpBack {Q : Value → Shared → Prop} {v : Value} {s : Shared} (h : Q v s) (n : v ≠ .notImplemented) : CmpBack Q v s := by
  cases v <;> first | exact h | exact absurd rfl n
end
end PySem.W
namespace Cl
open PySem PySem.Spec PyProof.Rows L2
theorem rel_ni {v : V} {u : Value} (r : RelV v u) : u ≠ .notImplemented := fun e => by
  subst e
  cases v <;> first | (obtain ⟨_, z⟩ := r; cases z) | cases r
/-- of an instance of the class at C and one of that at D: the promise of the def that answers -/
def rOwnB (C D : Addr) (sp : Sp) (f : V → V) : R2 := fun x y H Q => ∃ a b dx dy fs gs, x = .ref a ∧ y = .ref b ∧ H a = some (.ins C dx fs) ∧ H b = some (.ins D dy gs) ∧ sp [x, y] H (fun v H' => Q (f v) H') (fun _ _ _ => False)
section
variable {X : Cx} {C D f f2 : Addr} {sp : Sp} {k : Nat}
theorem insts {pins : List (Addr × Obj)} {σ : L2.St} {H : Hp} {s : Shared} {a dx : Addr} {fs : List (Str × V)} (I : Inv X pins σ H s) (h : H a = some (.ins C dx fs)) : ∃ ox od, PySem.W.InstAt s.heap a ox C od := by
  obtain ⟨mA, J, _⟩ := ins_get I.hok h
  obtain ⟨od, J, _⟩ := J.look
  exact ⟨_, _, J⟩
/-- the call that answers -/
theorem own_call {A : Around} {E : XK} {pins : List (Addr × Obj)} {σ : L2.St} {H : Hp} {s : Shared} {vs : List V} {us : List Value} {Q : VK} (F : FnR X.prog X.w X.K X.mg X.base (fun _ _ _ _ _ _ => False) k f sp) (hr : Room k A) (hA : A.frames = X.A.frames) (I : Inv X pins σ H s) (r : Vals vs us) (h : sp vs H Q E) :
    wpAny (model X.prog X.w) A (call (.ref f) us) (EP X pins σ Q) (fun _ _ => False) s := by
  have e0 : Env0 X.prog X.w X.K X.mg X.base A X.stack s H := by
    have e := I.env0
    exact ⟨by rw [hA]; exact e.frames, e.mod, e.bs, e.bsz, e.funs, e.frf, e.hok, e.bare⟩
  refine wpAny_call (codeAny_mono (F A X.stack s H us vs Q E hr e0 r h) fun r s' hq => ?_)
  cases r with
  | error e => exact hq
  | ok fl =>
    cases fl with
    | ret u => exact I.after hq
    | next => exact False.elim hq
    | brk => exact False.elim hq
    | cont => exact False.elim hq
/-- a op b, one class -/
theorem op_own1 {op : Operator} (F : FnR X.prog X.w X.K X.mg X.base (fun _ _ _ _ _ _ => False) k f sp) (hr : Room k X.A) (hc : PySem.W.selfFirst X.K C = true)
    (hs : PySem.W.findIn X.K (.ref C) (PySem.dunder op.info.2) = some (some (.ref f))) (hf : PySem.W.isFn X.K (.ref f) = true) : OpR X (binaryOp op) (rOwnB C C sp id) := by
  intro pins s σ H x y v u Q I rx ry ⟨a, b, dx, dy, fs, gs, e1, e2, h1, h2, h⟩
  subst e1 e2
  cases rx
  cases ry
  obtain ⟨ox, od, J⟩ := insts I h1
  obtain ⟨oy, od', J'⟩ := insts I h2
  obtain ⟨m, hF⟩ := I.fr
  refine PySem.W.binop_K hF I.ok.mod.kin J J'.type hc hs hf (wpAny_mono (own_call (vs := [.ref a, .ref b]) F hr rfl I (.cons rfl (.cons rfl .nil)) h) (fun r s' hq => ?_) fun _ _ z => z.elim)
  obtain ⟨z, H', I', rz, q⟩ := hq
  exact PySem.W.cmpBack ⟨z, H', I', rz, q⟩ (rel_ni rz)
/-- a op b, two classes -/
theorem op_own2 {op : Operator} {rc rc2 : Option Value} (F : FnR X.prog X.w X.K X.mg X.base (fun _ _ _ _ _ _ => False) k f sp) (hr : Room k X.A) (hcd : C ≠ D) (hc : PySem.W.selfFirst X.K C = true) (hd : PySem.W.selfFirst X.K D = true)
    (hs : PySem.W.findIn X.K (.ref C) (PySem.dunder op.info.2) = some (some (.ref f))) (hf : PySem.W.isFn X.K (.ref f) = true) (hrr : PySem.W.findIn X.K (.ref C) (dunderR op.info.2) = some none)
    (hs2 : PySem.W.findIn X.K (.ref D) (PySem.dunder op.info.2) = some (some (.ref f2))) (hr2 : PySem.W.findIn X.K (.ref D) (dunderR op.info.2) = some none) (hsub : PySem.W.subIn X.K (.ref D) (.ref C) = some false) : OpR X (binaryOp op) (rOwnB C D sp id) := by
  intro pins s σ H x y v u Q I rx ry ⟨a, b, dx, dy, fs, gs, e1, e2, h1, h2, h⟩
  subst e1 e2
  cases rx
  cases ry
  obtain ⟨ox, od, J⟩ := insts I h1
  obtain ⟨oy, od', J'⟩ := insts I h2
  obtain ⟨m, hF⟩ := I.fr
  refine PySem.W.bin_two hF I.ok.mod.kin J J' hcd hc hd hs hf hrr (.inl rfl) hs2 hr2 (.inl rfl) hsub (wpAny_mono (own_call (vs := [.ref a, .ref b]) F hr rfl I (.cons rfl (.cons rfl .nil)) h) (fun r s' hq => ?_) fun _ _ z => z.elim)
  obtain ⟨z, H', I', rz, q⟩ := hq
  exact PySem.W.cmpBack ⟨z, H', I', rz, q⟩ (rel_ni rz)
/-- ~a -/
theorem un_own (F : FnR X.prog X.w X.K X.mg X.base (fun _ _ _ _ _ _ => False) k f sp) (hr : Room k X.A) (hs : PySem.W.findIn X.K (.ref C) "__invert__" = some (some (.ref f))) (hf : PySem.W.isFn X.K (.ref f) = true) :
    UnR X (unaryOp .Invert) (fun x H Q => ∃ a dx fs, x = .ref a ∧ H a = some (.ins C dx fs) ∧ sp [x] H Q (fun _ _ _ => False)) := by
  intro pins s σ H x v Q I rx ⟨a, dx, fs, e1, h1, h⟩
  subst e1
  cases rx
  obtain ⟨ox, od, J⟩ := insts I h1
  obtain ⟨m, hF⟩ := I.fr
  exact PySem.W.ksp_inv hF I.ok.mod.kin J hs hf (wpAny_mono (own_call (vs := [.ref a]) F hr rfl I (.cons rfl .nil) h) (fun _ _ z => z) fun _ _ z => z.elim)
/-- a == b, one class -/
theorem op_ownEq (F : FnR X.prog X.w X.K X.mg X.base (fun _ _ _ _ _ _ => False) k f sp) (hr : Room k X.A) (hs : PySem.W.findIn X.K (.ref C) "__eq__" = some (some (.ref f))) (hf : PySem.W.isFn X.K (.ref f) = true) : OpR X (compareOp .Eq) (rOwnB C C sp id) := by
  intro pins s σ H x y v u Q I rx ry ⟨a, b, dx, dy, fs, gs, e1, e2, h1, h2, h⟩
  subst e1 e2
  cases rx
  cases ry
  obtain ⟨ox, od, J⟩ := insts I h1
  obtain ⟨oy, od', J'⟩ := insts I h2
  obtain ⟨m, hF⟩ := I.fr
  show wpAny _ _ (richCompare .Eq (.ref a) (.ref b)) _ _ _
  refine PySem.W.cmp_K (op := .Eq) (tb := .ref C) hr.units0 hF I.ok.mod.kin J J'.type (by simp [PySem.W.notFirst]) hs hf (wpAny_mono (own_call (vs := [.ref a, .ref b]) F hr rfl I (.cons rfl (.cons rfl .nil)) h) (fun r s' hq => ?_) fun _ _ z => z.elim)
  obtain ⟨z, H', I', rz, q⟩ := hq
  exact PySem.W.cmpBack ⟨z, H', I', rz, q⟩ (rel_ni rz)
/-- a != b, one class, by the own == -/
theorem op_ownNe (F : FnR X.prog X.w X.K X.mg X.base (fun _ _ _ _ _ _ => False) k f sp) (hr : Room (k + 1) X.A) (hs : PySem.W.findIn X.K (.ref C) "__eq__" = some (some (.ref f))) (hf : PySem.W.isFn X.K (.ref f) = true)
    (hn : PySem.W.findIn X.K (.ref C) "__ne__" = some (some (.builtin "object.__ne__"))) (hob : PySem.W.subIn X.K (.ref C) (.type "object") = some true) :
    OpR X (compareOp .NotEq) (fun x y H Q => rOwnB C C sp id x y H fun v H' => ∃ b, v = .bl b ∧ Q (.bl (!b)) H') := by
  intro pins s σ H x y v u Q I rx ry ⟨a, b, dx, dy, fs, gs, e1, e2, h1, h2, h⟩
  subst e1 e2
  cases rx
  cases ry
  obtain ⟨ox, od, J⟩ := insts I h1
  obtain ⟨oy, od', J'⟩ := insts I h2
  obtain ⟨m, hF⟩ := I.fr
  show wpAny _ _ (richCompare .NotEq (.ref a) (.ref b)) _ _ _
  have hr' : Room k X.A.in1 := ⟨hr.hd, by have := hr.dp; show X.A.depth + 3 * k + 5 < _; omega, by have := hr.un; show X.A.units + 1 + 16 * k + 200 < _; omega⟩
  refine PySem.W.ne_own hF I.ok.mod.kin J J' hs hf hn hob (by have := hr.units; omega) (wpAny_mono (own_call (vs := [.ref a, .ref b]) F hr' rfl I (.cons rfl (.cons rfl .nil)) h) (fun r s' hq => ?_) fun _ _ z => z.elim)
  obtain ⟨z, H', I', rz, c, hc, q⟩ := hq
  change z = .bl c at hc
  subst hc
  cases rz
  exact ⟨c, rfl, .bl (!c), H', I', rfl, q⟩
end
end Cl
end
section
/-! Nets by numbers: plain mathematics. -/
namespace Mn
/-- (x, y) lies in the net that (a, 0) and (b, c) span -/
def In (a b c x y : Int) : Prop := ∃ k m : Int, x = k * b + m * a ∧ y = k * c
structure Ok (a b c : Int) : Prop where
  b0 : 0 ≤ b
  ba : b < a
  c1 : 1 ≤ c
theorem Ok.a {a b c : Int} (h : Ok a b c) : 0 < a := by have := h.b0; have := h.ba; omega
theorem Ok.c {a b c : Int} (h : Ok a b c) : 0 < c := by have := h.c1; omega
theorem in_zero {a b c : Int} : In a b c 0 0 := ⟨0, 0, by omega, by omega⟩
theorem in_add {a b c x y u v : Int} (h : In a b c x y) (g : In a b c u v) : In a b c (x + u) (y + v) := by
  obtain ⟨k, m, rfl, rfl⟩ := h
  obtain ⟨l, n, rfl, rfl⟩ := g
  exact ⟨k + l, m + n, by rw [Int.add_mul, Int.add_mul]; omega, by rw [Int.add_mul]⟩
theorem in_neg {a b c x y : Int} (h : In a b c x y) : In a b c (-x) (-y) := by
  obtain ⟨k, m, rfl, rfl⟩ := h
  exact ⟨-k, -m, by rw [Int.neg_mul, Int.neg_mul]; omega, by rw [Int.neg_mul]⟩
theorem in_sub {a b c x y u v : Int} (h : In a b c x y) (g : In a b c u v) : In a b c (x - u) (y - v) := by
  have := in_add h (in_neg g)
  rwa [← Int.sub_eq_add_neg, ← Int.sub_eq_add_neg] at this
theorem in_mul {a b c x y : Int} (n : Int) (h : In a b c x y) : In a b c (n * x) (n * y) := by
  obtain ⟨k, m, rfl, rfl⟩ := h
  exact ⟨n * k, n * m, by rw [Int.mul_add, Int.mul_assoc, Int.mul_assoc], by rw [Int.mul_assoc]⟩
theorem in_a {a b c : Int} : In a b c a 0 := ⟨0, 1, by omega, by omega⟩
theorem in_bc {a b c : Int} : In a b c b c := ⟨1, 0, by omega, by omega⟩
theorem in_row {a b c x : Int} (hc : c ≠ 0) : In a b c x 0 ↔ a ∣ x := by
  constructor
  · rintro ⟨k, m, rfl, h⟩
    have : k = 0 := by
      rcases Int.mul_eq_zero.mp h.symm with z | z
      · exact z
      · exact absurd z hc
    subst this
    exact ⟨m, by rw [Int.zero_mul, Int.zero_add, Int.mul_comm]⟩
  · rintro ⟨m, rfl⟩
    exact ⟨0, m, by rw [Int.zero_mul, Int.zero_add, Int.mul_comm], by rw [Int.zero_mul]⟩
theorem in_dvd {a b c x y : Int} (h : In a b c x y) : c ∣ y := by
  obtain ⟨k, m, _, rfl⟩ := h
  exact ⟨k, Int.mul_comm _ _⟩
/-- the place within the cell -/
def lowx (a b c x y : Int) : Int := (x - y / c * b) % a
def lowy (c y : Int) : Int := y - y / c * c
theorem lowy_eq (c y : Int) : lowy c y = y % c := by
  unfold lowy
  rw [Int.emod_def, Int.mul_comm]
theorem low_in {a b c x y : Int} : In a b c (x - lowx a b c x y) (y - lowy c y) := by
  refine ⟨y / c, (x - y / c * b) / a, ?_, ?_⟩
  · unfold lowx
    rw [Int.emod_def, Int.mul_comm a]
    omega
  · unfold lowy
    omega
theorem low_cell {a b c x y : Int} (h : Ok a b c) : 0 ≤ lowx a b c x y ∧ lowx a b c x y < a ∧ 0 ≤ lowy c y ∧ lowy c y < c := by
  have ha := h.a
  have hc := h.c
  refine ⟨Int.emod_nonneg _ (by omega), Int.emod_lt_of_pos _ ha, ?_, ?_⟩
  · rw [lowy_eq]; exact Int.emod_nonneg _ (by omega)
  · rw [lowy_eq]; exact Int.emod_lt_of_pos _ hc
/-- two places of the cell that lie a net's shift apart are one -/
theorem cell_inj {a b c x y u v : Int} (h : Ok a b c) (hx : 0 ≤ x) (hx2 : x < a) (hy : 0 ≤ y) (hy2 : y < c) (hu : 0 ≤ u) (hu2 : u < a) (hv : 0 ≤ v) (hv2 : v < c) (hin : In a b c (x - u) (y - v)) : x = u ∧ y = v := by
  obtain ⟨d, hd⟩ := in_dvd hin
  have hd0 : d = 0 := by
    rcases Int.lt_trichotomy d 0 with z | z | z
    · have : c * d ≤ c * (-1) := Int.mul_le_mul_of_nonneg_left (by omega) (by omega)
      omega
    · exact z
    · have : c * 1 ≤ c * d := Int.mul_le_mul_of_nonneg_left (by omega) (by omega)
      omega
  subst hd0
  have hyv : y - v = 0 := by rw [hd, Int.mul_zero]
  rw [hyv] at hin
  obtain ⟨e, he⟩ := (in_row (by have := h.c; omega)).mp hin
  have he0 : e = 0 := by
    rcases Int.lt_trichotomy e 0 with z | z | z
    · have : a * e ≤ a * (-1) := Int.mul_le_mul_of_nonneg_left (by omega) (by have := h.a; omega)
      omega
    · exact z
    · have : a * 1 ≤ a * e := Int.mul_le_mul_of_nonneg_left (by omega) (by have := h.a; omega)
      omega
  subst he0
  rw [Int.mul_zero] at he
  omega
theorem low_eq {a b c x y u v : Int} (h : Ok a b c) : (lowx a b c x y = lowx a b c u v ∧ lowy c y = lowy c v) ↔ In a b c (x - u) (y - v) := by
  have h1 := low_in (a := a) (b := b) (c := c) (x := x) (y := y)
  have h2 := low_in (a := a) (b := b) (c := c) (x := u) (y := v)
  constructor
  · rintro ⟨e1, e2⟩
    have := in_sub h1 h2
    rw [e1, e2] at this
    have e3 : x - lowx a b c u v - (u - lowx a b c u v) = x - u := by omega
    have e4 : y - lowy c v - (v - lowy c v) = y - v := by omega
    rwa [e3, e4] at this
  · intro hin
    have := in_sub hin (in_sub h1 h2)
    have e3 : x - u - (x - lowx a b c x y - (u - lowx a b c u v)) = lowx a b c x y - lowx a b c u v := by omega
    have e4 : y - v - (y - lowy c y - (v - lowy c v)) = lowy c y - lowy c v := by omega
    rw [e3, e4] at this
    obtain ⟨p1, p2, p3, p4⟩ := low_cell (x := x) (y := y) h
    obtain ⟨q1, q2, q3, q4⟩ := low_cell (x := u) (y := v) h
    exact cell_inj h p1 p2 p3 p4 q1 q2 q3 q4 this
theorem low_self {a b c x y : Int} (h : Ok a b c) (hx : 0 ≤ x) (hx2 : x < a) (hy : 0 ≤ y) (hy2 : y < c) : lowx a b c x y = x ∧ lowy c y = y := by
  obtain ⟨q1, q2, q3, q4⟩ := low_cell (x := x) (y := y) h
  have := in_neg (low_in (a := a) (b := b) (c := c) (x := x) (y := y))
  have e3 : -(x - lowx a b c x y) = lowx a b c x y - x := by omega
  have e4 : -(y - lowy c y) = lowy c y - y := by omega
  rw [e3, e4] at this
  exact cell_inj h q1 q2 q3 q4 hx hx2 hy hy2 this
theorem in_iff_low {a b c x y : Int} (h : Ok a b c) : In a b c x y ↔ lowx a b c x y = 0 ∧ lowy c y = 0 := by
  have := low_eq (x := x) (y := y) (u := 0) (v := 0) h
  obtain ⟨e1, e2⟩ := low_self (x := 0) (y := 0) h (by omega) h.a (by omega) h.c
  rw [e1, e2, Int.sub_zero, Int.sub_zero] at this
  exact this.symm
/-- the numbers of a net are told by what lies in it -/
theorem sub_dvd {a b c p q r : Int} (h : Ok a b c) (g : Ok p q r) (hs : ∀ x y, In a b c x y → In p q r x y) : p ∣ a ∧ r ∣ c :=
  ⟨(in_row (by have := g.c; omega)).mp (hs _ _ in_a), in_dvd (hs _ _ in_bc)⟩
theorem in_uniq {a b c p q r : Int} (h : Ok a b c) (g : Ok p q r) (hs : ∀ x y, In a b c x y ↔ In p q r x y) : a = p ∧ b = q ∧ c = r := by
  obtain ⟨h1, h2⟩ := sub_dvd h g fun x y => (hs x y).mp
  obtain ⟨g1, g2⟩ := sub_dvd g h fun x y => (hs x y).mpr
  have e1 : a = p := Int.dvd_antisymm (by have := h.a; omega) (by have := g.a; omega) g1 h1
  have e2 : c = r := Int.dvd_antisymm (by have := h.c; omega) (by have := g.c; omega) g2 h2
  subst e1 e2
  have i1 := (hs b c).mp in_bc
  have := in_sub i1 in_bc
  rw [Int.sub_self] at this
  obtain ⟨e, he⟩ := (in_row (by have := h.c; omega)).mp this
  have := h.b0; have := h.ba; have := g.b0; have := g.ba
  have he0 : e = 0 := by
    rcases Int.lt_trichotomy e 0 with z | z | z
    · have : a * e ≤ a * (-1) := Int.mul_le_mul_of_nonneg_left (by omega) (by omega)
      omega
    · exact z
    · have : a * 1 ≤ a * e := Int.mul_le_mul_of_nonneg_left (by omega) (by omega)
      omega
  subst he0
  rw [Int.mul_zero] at he
  refine ⟨rfl, by omega, rfl⟩
theorem sub_size {a b c p q r : Int} (h : Ok a b c) (g : Ok p q r) (hs : ∀ x y, In a b c x y → In p q r x y) : p * r ≤ a * c := by
  obtain ⟨⟨d, rfl⟩, ⟨e, rfl⟩⟩ := sub_dvd h g hs
  have hp := g.a
  have hr := g.c
  have hd : 1 ≤ d := by
    have := h.a
    rcases Int.lt_or_le d 1 with z | z
    · have := Int.mul_nonpos_of_nonneg_of_nonpos (show 0 ≤ p by omega) (show d ≤ 0 by omega)
      omega
    · exact z
  have he : 1 ≤ e := by
    have := h.c
    rcases Int.lt_or_le e 1 with z | z
    · have := Int.mul_nonpos_of_nonneg_of_nonpos (show 0 ≤ r by omega) (show e ≤ 0 by omega)
      omega
    · exact z
  have l1 := Int.mul_le_mul_of_nonneg_left hd (show 0 ≤ p by omega)
  have l2 := Int.mul_le_mul_of_nonneg_left he (show 0 ≤ r by omega)
  rw [Int.mul_one] at l1 l2
  exact Int.mul_le_mul l1 l2 (by omega) (by have := h.a; omega)
/-- two shifts of a net span a multiple of its cell -/
theorem in_det {a b c x y u v : Int} (h : In a b c x y) (g : In a b c u v) : a * c ∣ x * v - u * y := by
  obtain ⟨k, m, rfl, rfl⟩ := h
  obtain ⟨l, n, rfl, rfl⟩ := g
  refine ⟨m * l - n * k, ?_⟩
  simp only [Int.add_mul, Int.mul_sub, Int.mul_add]
  have e1 : k * b * (l * c) = l * b * (k * c) := by
    rw [Int.mul_assoc k b, Int.mul_left_comm b l c, Int.mul_left_comm k l, Int.mul_assoc l b, Int.mul_left_comm b k c]
  have e2 : m * a * (l * c) = a * c * (m * l) := by
    rw [Int.mul_comm m a, Int.mul_assoc a m, Int.mul_left_comm m l c, Int.mul_assoc a c, Int.mul_comm l, Int.mul_assoc m c l, Int.mul_left_comm m c l]
  have e3 : n * a * (k * c) = a * c * (n * k) := by
    rw [Int.mul_comm n a, Int.mul_assoc a n, Int.mul_left_comm n k c, Int.mul_assoc a c, Int.mul_comm k, Int.mul_assoc n c k, Int.mul_left_comm n c k]
  omega
/-! ### the common net -/
theorem alg1 (r w f m a e : Int) : r * w * f + m * a - w * (r * f + a * e) = a * (m - w * e) := by grind
/-- rows · (b's shift) ≡ .. : the numbers that common_numbers makes; u is the factor of bezout -/
structure Bez (a p d u : Int) : Prop where
  d0 : 0 < d
  da : d ∣ a
  dp : d ∣ p
  dx : ∀ e, e ∣ a → e ∣ p → e ∣ d
  au : p ∣ a * u - d
theorem ediv_mul {a d : Int} (h : d ∣ a) : a / d * d = a := Int.ediv_mul_cancel h
/-- a shift of up rows -/
theorem common_in {a b c p q r up d u rows right width : Int} (h : Ok a b c) (g : Ok p q r) (hc : c ∣ up) (hr : r ∣ up) (hl : ∀ e, c ∣ e → r ∣ e → up ∣ e) (hup : 0 < up) (B : Bez a p d u)
    (hrows : rows = d / (Int.gcd d (b * (up / c) - q * (up / r)) : Nat)) (hright : right = rows * (b * (up / c)) + a * ((rows * (q * (up / r)) - rows * (b * (up / c))) / d * u)) (hw : width = a * p / d) :
    Ok width (right % width) (rows * up) ∧ (∀ x y, In width (right % width) (rows * up) x y ↔ In a b c x y ∧ In p q r x y) ∧ width * (rows * up) ≤ a * p * up ∧ 1 ≤ rows ∧ rows ≤ d ∧ width * d = a * p := by
  have hd := B.d0
  have ha := h.a
  have hp := g.a
  have hcc := h.c
  have hrr := g.c
  generalize hf : b * (up / c) = f at hrows hright
  generalize hs : q * (up / r) = s at hrows hright
  have hG : (0 : Int) < (Int.gcd d (f - s) : Nat) := by
    have := Int.gcd_pos_of_ne_zero_left (f - s) (show d ≠ 0 by omega)
    omega
  have hGd : ((Int.gcd d (f - s) : Nat) : Int) ∣ d := Int.gcd_dvd_left ..
  have hGs : ((Int.gcd d (f - s) : Nat) : Int) ∣ f - s := Int.gcd_dvd_right ..
  have hrd : rows * (Int.gcd d (f - s) : Nat) = d := by rw [hrows]; exact ediv_mul hGd
  generalize hg : ((Int.gcd d (f - s) : Nat) : Int) = G at hG hGd hGs hrd hrows
  have rows1 : 1 ≤ rows := by
    rcases Int.lt_or_le 0 rows with z | z
    · omega
    · have := Int.mul_nonpos_of_nonneg_of_nonpos (show 0 ≤ G by omega) z
      rw [Int.mul_comm] at this
      omega
  have rowsd : rows ≤ d := by
    have := Int.mul_le_mul_of_nonneg_left (show 1 ≤ G by omega) (show 0 ≤ rows by omega)
    omega
  have hwd : width * d = a * p := by rw [hw]; exact ediv_mul (Int.dvd_trans B.da ⟨p, rfl⟩)
  have hw0 : 0 < width := by
    have h1 : 0 < a * p := Int.mul_pos ha hp
    rcases Int.lt_or_le 0 width with z | z
    · exact z
    · have := Int.mul_nonpos_of_nonpos_of_nonneg z (show 0 ≤ d by omega)
      omega
  obtain ⟨a1, ha1⟩ := B.da
  obtain ⟨p1, hp1⟩ := B.dp
  have dne : d ≠ 0 := by omega
  -- width is the least common multiple
  have wa : width = a * p1 := by
    refine Int.eq_of_mul_eq_mul_right dne ?_
    rw [hwd, hp1, Int.mul_assoc, Int.mul_comm p1 d]
  have wp : width = p * a1 := by
    refine Int.eq_of_mul_eq_mul_right dne ?_
    grind
  obtain ⟨t, ht⟩ := B.au
  have lcm : ∀ x, width ∣ x ↔ a ∣ x ∧ p ∣ x := fun x => by
    constructor
    · intro hx
      exact ⟨Int.dvd_trans ⟨p1, wa⟩ hx, Int.dvd_trans ⟨a1, wp⟩ hx⟩
    · rintro ⟨⟨i, hi⟩, ⟨j, hj⟩⟩
      -- a·u = d + p·t; x·d = x·a·u - x·p·t
      refine ⟨j * u - i * t, ?_⟩
      refine Int.eq_of_mul_eq_mul_right dne ?_
      grind
  -- the right shift
  have hfd : d ∣ rows * s - rows * f := by
    obtain ⟨e, he⟩ := hGs
    exact ⟨-e, by grind⟩
  obtain ⟨z, hz⟩ := hfd
  have hz2 : (rows * s - rows * f) / d = z := by rw [hz]; exact Int.mul_ediv_cancel_left z dne
  rw [hz2] at hright
  have ra : a ∣ right - rows * f := ⟨z * u, by rw [hright]; grind⟩
  have rp : p ∣ right - rows * s := ⟨z * t, by rw [hright]; grind⟩
  obtain ⟨wq, hwq⟩ : width ∣ right - right % width := ⟨right / width, by rw [Int.emod_def]; grind⟩
  have hrw : 0 < rows * up := Int.mul_pos (by omega) hup
  refine ⟨⟨Int.emod_nonneg _ (by omega), Int.emod_lt_of_pos _ hw0, by omega⟩, fun x y => ?_, ?_, rows1, rowsd, hwd⟩
  · have up1 : up / c * c = up := ediv_mul hc
    have up2 : up / r * r = up := ediv_mul hr
    constructor
    · rintro ⟨k, m, rfl, rfl⟩
      obtain ⟨e1, he1⟩ := ra
      obtain ⟨e2, he2⟩ := rp
      refine ⟨⟨k * rows * (up / c), m * p1 + k * e1 - k * wq * p1, ?_, ?_⟩, ⟨k * rows * (up / r), m * a1 + k * e2 - k * wq * a1, ?_, ?_⟩⟩
      · have : right % width = rows * f + a * e1 - width * wq := by omega
        rw [this, ← hf, wa]; grind
      · rw [Int.mul_assoc (k * rows), up1, Int.mul_assoc]
      · have : right % width = rows * s + p * e2 - width * wq := by omega
        rw [this, ← hs]
        grind
      · rw [Int.mul_assoc (k * rows), up2, Int.mul_assoc]
    · rintro ⟨⟨k, m, hx, hy⟩, ⟨l, n, hx2, hy2⟩⟩
      obtain ⟨v, hv⟩ := hl y ⟨k, by rw [hy, Int.mul_comm]⟩ ⟨l, by rw [hy2, Int.mul_comm]⟩
      have hk : k = v * (up / c) := by
        refine Int.eq_of_mul_eq_mul_right (show c ≠ 0 by omega) ?_
        rw [Int.mul_assoc, up1, ← hy, hv, Int.mul_comm]
      have hl2 : l = v * (up / r) := by
        refine Int.eq_of_mul_eq_mul_right (show r ≠ 0 by omega) ?_
        rw [Int.mul_assoc, up2, ← hy2, hv, Int.mul_comm]
      have e1 : x = v * f + m * a := by rw [hx, hk, ← hf]; grind
      have e2 : x = v * s + n * p := by rw [hx2, hl2, ← hs]; grind
      -- d divides v·(f - s), so rows divides v
      have hdv : d ∣ v * (f - s) := ⟨n * p1 - m * a1, by rw [Int.mul_sub]; grind⟩
      have hrv : rows ∣ v := by
        obtain ⟨e, he⟩ := hGs
        have h1 : rows ∣ v * e := by
          obtain ⟨i, hi⟩ := hdv
          refine ⟨i, Int.eq_of_mul_eq_mul_right (show G ≠ 0 by omega) ?_⟩
          have q1 : v * e * G = v * (f - s) := by rw [he, Int.mul_assoc, Int.mul_comm e G]
          have q2 : rows * i * G = d * i := by rw [← hrd, Int.mul_assoc, Int.mul_assoc, Int.mul_comm i G]
          rw [q1, q2]; exact hi
        have cop : Int.gcd rows e = 1 := by
          have h2 : Int.gcd (rows * G) (e * G) = Int.gcd rows e * G.natAbs := Int.gcd_mul_right ..
          rw [hrd, Int.mul_comm e G, ← he] at h2
          have h3 : G.natAbs = Int.gcd d (f - s) := by omega
          have h4 : 0 < G.natAbs := by omega
          rw [← h3] at h2
          exact Nat.eq_of_mul_eq_mul_right h4 (by omega)
        have h3 := Int.dvd_coe_gcd (show rows ∣ v * rows from ⟨v, Int.mul_comm _ _⟩) h1
        rw [Int.gcd_mul_left, cop, Nat.mul_one] at h3
        exact Int.dvd_natAbs.mp h3
      obtain ⟨w, hw'⟩ := hrv
      -- x - w·right lies in both rows' nets
      have h1 : width ∣ x - w * right := by
        refine (lcm _).mpr ⟨?_, ?_⟩
        · obtain ⟨e1', he1'⟩ := ra
          have q1 : right = rows * f + a * e1' := by omega
          exact ⟨m - w * e1', by rw [e1, hw', q1]; exact alg1 ..⟩
        · obtain ⟨e2', he2'⟩ := rp
          have q1 : right = rows * s + p * e2' := by omega
          exact ⟨n - w * e2', by rw [e2, hw', q1]; exact alg1 ..⟩
      obtain ⟨i, hi⟩ := h1
      refine ⟨w, i + w * wq, ?_, ?_⟩
      · have : right % width = right - width * wq := by omega
        rw [this]
        grind
      · rw [hv, hw']
        grind
  · have h1 : width * rows ≤ width * d := Int.mul_le_mul_of_nonneg_left rowsd (by omega)
    have h2 : width * rows * up ≤ width * d * up := Int.mul_le_mul_of_nonneg_right h1 (by omega)
    rw [hwd] at h2
    rw [← Int.mul_assoc]
    exact h2
end Mn
end
section
/-! Colourings and their nets: plain mathematics. -/
namespace Mn
/-- the shift keeps the colouring -/
def Per (f : Int → Int → Nat) (u v : Int) : Prop := ∀ x y, f (x + u) (y + v) = f x y
section
variable {f : Int → Int → Nat} {u v s t : Int}
theorem per_zero : Per f 0 0 := fun x y => by rw [Int.add_zero, Int.add_zero]
theorem per_add (h : Per f u v) (g : Per f s t) : Per f (u + s) (v + t) := fun x y => by
  rw [← Int.add_assoc, ← Int.add_assoc, g, h]
theorem per_neg (h : Per f u v) : Per f (-u) (-v) := fun x y => by
  have := h (x + -u) (y + -v)
  rw [Int.neg_add_cancel_right, Int.neg_add_cancel_right] at this
  exact this.symm
theorem per_sub (h : Per f u v) (g : Per f s t) : Per f (u - s) (v - t) := by
  rw [Int.sub_eq_add_neg, Int.sub_eq_add_neg]
  exact per_add h (per_neg g)
theorem per_nat (h : Per f u v) : ∀ n : Nat, Per f (n * u) (n * v)
  | 0 => by rw [Int.natCast_zero, Int.zero_mul, Int.zero_mul]; exact per_zero
  | n + 1 => by
    have := per_add (per_nat h n) h
    rw [Int.natCast_succ, Int.add_mul, Int.add_mul, Int.one_mul, Int.one_mul]
    exact this
theorem per_mul (h : Per f u v) (n : Int) : Per f (n * u) (n * v) := by
  rcases Int.le_total 0 n with z | z
  · obtain ⟨k, rfl⟩ := Int.eq_ofNat_of_zero_le z
    exact per_nat h k
  · obtain ⟨k, hk⟩ := Int.eq_ofNat_of_zero_le (show 0 ≤ -n by omega)
    have := per_neg (per_nat h k)
    have e : n = -(k : Int) := by omega
    rw [e, Int.neg_mul, Int.neg_mul]
    exact this
theorem per_in {a b c : Int} (h1 : Per f a 0) (h2 : Per f b c) {u v : Int} (h : In a b c u v) : Per f u v := by
  obtain ⟨k, m, rfl, rfl⟩ := h
  have := per_add (per_mul h2 k) (per_mul h1 m)
  rwa [Int.mul_zero, Int.add_zero] at this
end
/-- a least one of the numbers 1, 2, .. that P holds of -/
theorem least_pos {P : Int → Prop} {n : Int} (h0 : 0 < n) (hP : P n) : ∃ m, 0 < m ∧ m ≤ n ∧ P m ∧ ∀ k, 0 < k → k < m → ¬ P k := by
  obtain ⟨N, rfl⟩ := Int.eq_ofNat_of_zero_le (show 0 ≤ n by omega)
  induction N using Nat.strongRecOn with
  | ind N ih =>
    by_cases hex : ∃ k, 0 < k ∧ k < (N : Int) ∧ P k
    · obtain ⟨k, k0, kN, kP⟩ := hex
      obtain ⟨K, rfl⟩ := Int.eq_ofNat_of_zero_le (show 0 ≤ k by omega)
      obtain ⟨m, m0, mK, mP, ml⟩ := ih K (by omega) k0 kP
      exact ⟨m, m0, by omega, mP, ml⟩
    · exact ⟨N, h0, by omega, hP, fun k k0 kN kP => hex ⟨k, k0, kN, kP⟩⟩
/-- the net of all shifts that keep the colouring -/
structure Canon (f : Int → Int → Nat) (a b c : Int) : Prop where
  ok : Ok a b c
  per : ∀ u v, In a b c u v ↔ Per f u v
theorem canon_uniq {f : Int → Int → Nat} {a b c p q r : Int} (h : Canon f a b c) (g : Canon f p q r) : a = p ∧ b = q ∧ c = r :=
  in_uniq h.ok g.ok fun x y => (h.per x y).trans (g.per x y).symm
theorem canon_of {f : Int → Int → Nat} {a b c w right rows : Int} (h : Ok a b c) (hp : ∀ u v, In a b c u v → Per f u v) (w0 : 0 < w) (wp : Per f w 0) (wl : ∀ n, 0 < n → n < w → n ∣ a → ¬ Per f n 0)
    (r0 : 0 ≤ right) (rw_ : right < w) (s0 : 0 < rows) (sp : Per f right rows) (sl : ∀ g, 0 < g → g < rows → g ∣ c → ∀ x, 0 ≤ x → x < w → ¬ Per f x g) : Canon f w right rows := by
  have pa : Per f a 0 := hp _ _ in_a
  have pb : Per f b c := hp _ _ in_bc
  have noW : ∀ n, 0 < n → n < w → ¬ Per f n 0 := fun n n0 nw np => by
    obtain ⟨m, m0, mn, mp, ml⟩ := least_pos (P := fun n => Per f n 0) n0 np
    refine wl m m0 (by omega) ?_ mp
    have hr : Per f (a % m) 0 := by
      have := per_sub pa (per_mul mp (a / m))
      rw [Int.mul_zero, Int.sub_zero, Int.mul_comm, ← Int.emod_def] at this
      exact this
    have h1 := Int.emod_nonneg a (show m ≠ 0 by omega)
    have h2 := Int.emod_lt_of_pos a m0
    rcases Int.lt_or_le 0 (a % m) with z | z
    · exact absurd hr (ml _ z h2)
    · exact Int.dvd_of_emod_eq_zero (by omega)
  have row : ∀ n, Per f n 0 → w ∣ n := fun n np => by
    have hr : Per f (n % w) 0 := by
      have := per_sub np (per_mul wp (n / w))
      rw [Int.mul_zero, Int.sub_zero, Int.mul_comm, ← Int.emod_def] at this
      exact this
    have h1 := Int.emod_nonneg n (show w ≠ 0 by omega)
    have h2 := Int.emod_lt_of_pos n w0
    rcases Int.lt_or_le 0 (n % w) with z | z
    · exact absurd hr (noW _ z h2)
    · exact Int.dvd_of_emod_eq_zero (by omega)
  have toCell : ∀ x g, Per f x g → Per f (x % w) g := fun x g xp => by
    have := per_sub xp (per_mul wp (x / w))
    rw [Int.mul_zero, Int.sub_zero, Int.mul_comm, ← Int.emod_def] at this
    exact this
  have noR : ∀ g, 0 < g → g < rows → ∀ x, ¬ Per f x g := fun g g0 gr x xp => by
    obtain ⟨m, m0, mn, ⟨x', mp⟩, ml⟩ := least_pos (P := fun g => ∃ x, Per f x g) g0 ⟨x, xp⟩
    refine sl m m0 (by omega) ?_ (x' % w) (Int.emod_nonneg _ (by omega)) (Int.emod_lt_of_pos _ w0) (toCell _ _ mp)
    have hr : Per f (b - c / m * x') (c % m) := by
      have := per_sub pb (per_mul mp (c / m))
      rw [Int.mul_comm (c / m) m, ← Int.emod_def] at this
      exact this
    have h1 := Int.emod_nonneg c (show m ≠ 0 by omega)
    have h2 := Int.emod_lt_of_pos c m0
    rcases Int.lt_or_le 0 (c % m) with z | z
    · exact absurd ⟨_, hr⟩ (ml _ z h2)
    · exact Int.dvd_of_emod_eq_zero (by omega)
  refine ⟨⟨r0, rw_, by omega⟩, fun u v => ⟨fun hin => per_in wp sp hin, fun hper => ?_⟩⟩
  have hr : Per f (u - v / rows * right) (v % rows) := by
    have := per_sub hper (per_mul sp (v / rows))
    rw [Int.mul_comm (v / rows) rows, ← Int.emod_def] at this
    exact this
  have h1 := Int.emod_nonneg v (show rows ≠ 0 by omega)
  have h2 := Int.emod_lt_of_pos v s0
  have hv : v % rows = 0 := by
    rcases Int.lt_or_le 0 (v % rows) with z | z
    · exact absurd hr (noR _ z h2 _)
    · omega
  rw [hv] at hr
  obtain ⟨m, hm⟩ := row _ hr
  refine ⟨v / rows, m, ?_, ?_⟩
  · rw [Int.mul_comm m w]; omega
  · have := Int.emod_add_mul_ediv v rows
    rw [hv, Int.zero_add, Int.mul_comm] at this
    exact this.symm
theorem row_found {f : Int → Int → Nat} {b c w : Int} (w0 : 0 < w) (wp : Per f w 0) (hp : Per f b c) : 0 ≤ b % w ∧ b % w < w ∧ Per f (b % w) c := by
  refine ⟨Int.emod_nonneg _ (by omega), Int.emod_lt_of_pos _ w0, ?_⟩
  have := per_sub hp (per_mul wp (b / w))
  rw [Int.mul_zero, Int.sub_zero, Int.mul_comm, ← Int.emod_def] at this
  exact this
/-- what keeps the cell keeps all -/
theorem per_of_cell {f : Int → Int → Nat} {a b c u v : Int} (h : Ok a b c) (hp : ∀ u v, In a b c u v → Per f u v) (hk : ∀ x y, 0 ≤ x → x < a → 0 ≤ y → y < c → f x y = f (x + u) (y + v)) : Per f u v := fun x y => by
  obtain ⟨q1, q2, q3, q4⟩ := low_cell (x := x) (y := y) h
  have hin := low_in (a := a) (b := b) (c := c) (x := x) (y := y)
  have e1 := hp _ _ hin (lowx a b c x y) (lowy c y)
  have e2 := hp _ _ hin (lowx a b c x y + u) (lowy c y + v)
  rw [show lowx a b c x y + (x - lowx a b c x y) = x by omega, show lowy c y + (y - lowy c y) = y by omega] at e1
  rw [show lowx a b c x y + u + (x - lowx a b c x y) = x + u by omega, show lowy c y + v + (y - lowy c y) = y + v by omega] at e2
  rw [e1, e2]
  exact (hk _ _ q1 q2 q3 q4).symm
theorem f_low {f : Int → Int → Nat} {a b c x y : Int} (hp : ∀ u v, In a b c u v → Per f u v) : f (lowx a b c x y) (lowy c y) = f x y := by
  have e1 := hp _ _ (low_in (a := a) (b := b) (c := c) (x := x) (y := y)) (lowx a b c x y) (lowy c y)
  rw [show lowx a b c x y + (x - lowx a b c x y) = x by omega, show lowy c y + (y - lowy c y) = y by omega] at e1
  exact e1.symm
/-! ### the net of some shifts -/
def Span3 (a b c x y u v : Int) : Prop := ∃ k m n : Int, u = k * b + m * a + n * x ∧ v = k * c + n * y
theorem span_step {a b c x y t u v : Int} : Span3 a x y (b - t * x) (c - t * y) u v ↔ Span3 a b c x y u v := by
  constructor
  · rintro ⟨k, m, n, rfl, rfl⟩
    exact ⟨n, m, k - n * t, by grind, by grind⟩
  · rintro ⟨k, m, n, rfl, rfl⟩
    exact ⟨n + k * t, m, k, by grind, by grind⟩
theorem bez_ex (a x : Int) : ∃ i j : Int, (Int.gcd a x : Int) = i * a + j * x := by
  have key : ∀ n : Nat, ∀ a x : Int, x.natAbs = n → ∃ i j : Int, (Int.gcd a x : Int) = i * a + j * x := by
    intro n
    induction n using Nat.strongRecOn with
    | ind n ih =>
      intro a x hx
      by_cases h0 : x = 0
      · subst h0
        rcases Int.le_total 0 a with z | z
        · exact ⟨1, 0, by rw [Int.gcd_zero_right]; omega⟩
        · exact ⟨-1, 0, by rw [Int.gcd_zero_right]; omega⟩
      · have h1 := Int.emod_nonneg a h0
        have h2 := Int.emod_lt a h0
        obtain ⟨i, j, e⟩ := ih (a % x).natAbs (by omega) x (a % x) rfl
        have e2 : Int.gcd x (a % x) = Int.gcd a x := by
          rw [Int.emod_def, Int.gcd_sub_mul_left_right, Int.gcd_comm]
        rw [e2, Int.emod_def] at e
        exact ⟨j, i - j * (a / x), by rw [e]; grind⟩
  exact key _ a x rfl
theorem span_end {a b c x u v : Int} : Span3 a b c x 0 u v ↔ In (Int.gcd a x) b c u v := by
  obtain ⟨i, j, e⟩ := bez_ex a x
  obtain ⟨a1, ha⟩ := Int.gcd_dvd_left a x
  obtain ⟨x1, hx⟩ := Int.gcd_dvd_right a x
  constructor
  · rintro ⟨k, m, n, rfl, rfl⟩
    refine ⟨k, m * a1 + n * x1, ?_, by omega⟩
    have e1 : m * a = m * ((Int.gcd a x : Int) * a1) := congrArg (m * ·) ha
    have e2 : n * x = n * ((Int.gcd a x : Int) * x1) := congrArg (n * ·) hx
    grind
  · rintro ⟨k, m, rfl, rfl⟩
    exact ⟨k, m * i, m * j, by rw [e]; grind, by omega⟩
theorem in_mod {a b c u v : Int} : In a (b % a) c u v ↔ In a b c u v := by
  have e : b % a = b - a * (b / a) := Int.emod_def b a
  constructor
  · rintro ⟨k, m, rfl, rfl⟩
    exact ⟨k, m - k * (b / a), by rw [e]; grind, rfl⟩
  · rintro ⟨k, m, rfl, rfl⟩
    exact ⟨k, m + k * (b / a), by rw [e]; grind, rfl⟩
theorem in_flip {a b c u v : Int} : In a (-b) (-c) u v ↔ In a b c u v := by
  constructor
  · rintro ⟨k, m, rfl, rfl⟩
    exact ⟨-k, m, by grind, by grind⟩
  · rintro ⟨k, m, rfl, rfl⟩
    exact ⟨-k, m, by grind, by grind⟩
end Mn
end
section
set_option maxHeartbeats 4000000
/-! The rules that the walks share. -/
namespace Wk
open PySem PySem.Spec PyProof.Rows L2 Cl
/-- a module's name that stands for the object at f -/
structure Gb (K : PySem.W.Frag) (mg : Str → Option Value) (x : Str) (f : Addr) : Prop where
  g : mg x = some (.ref f)
  kp : PySem.W.keepIn K (.ref f) = true
/-- the method m of each of these classes is the def at f -/
structure Ms (K : PySem.W.Frag) (Cs : List Addr) (m : Str) (f : Addr) : Prop where
  all : ∀ C ∈ Cs, Cls K C ∧ Meth K C m f
/-- the property p of each of these classes is read by the def at g -/
structure Ps (K : PySem.W.Frag) (Cs : List Addr) (m : Str) (g : Addr) : Prop where
  all : ∀ C ∈ Cs, Cls K C ∧ ∃ p, PropOf K C m p g
/-- the staticmethod m of the class at C is the def at g -/
structure Ss (K : PySem.W.Frag) (C : Addr) (m : Str) (g : Addr) : Prop where
  ex : ∃ mc p rest, ClX.CRead K C mc ∧ PySem.W.findCls K (.ref C) mc m = some (.get (.builtin "staticmethod.__get__") (.ref p) .none (.ref C)) ∧ PySem.W.recIn K p "staticmethod" = some (.ref g :: rest) ∧ PySem.W.keepIn K (.ref g) = true
abbrev tF (sp : Sp) (t : TA) : TE := fun σ H Q => t σ H fun vs H1 => sp vs H1 Q EN
abbrev tM (Cs : List Addr) (m : Str) (sp : Sp) (ta : TE) (t : TA) : TE := fun σ H Q => ta σ H fun x H1 => ∃ a C dx fs, x = .ref a ∧ C ∈ Cs ∧ H1 a = some (.ins C dx fs) ∧ fs.lookup m = none ∧ t σ H1 fun vs H2 => sp (.ref a :: vs) H2 Q EN
abbrev tP (Cs : List Addr) (sp : Sp) (ta : TE) : TE := fun σ H Q => ta σ H fun x H1 => ∃ a C dx fs, x = .ref a ∧ C ∈ Cs ∧ H1 a = some (.ins C dx fs) ∧ sp [.ref a] H1 Q EN
section
variable {X : Cx} {k : Nat} {f C : Addr} {Cs : List Addr} {sp : Sp} {x m : Str} {e o : Expr} {es : List Expr} {te ta : TE} {t : TA} {p pos apos : Pos}
/-- x(e, ..) -/
theorem pe_g (F : FnR X.prog X.w X.K X.mg X.base C0 k f sp) (G : Gb X.K X.mg x f) (hr : Room k X.A) (hg : Gl X x) (ha : PA X (e :: es) t) (hd : (x == ("__debug__" : Str)) = false := by decide)
    (he : starEach (e :: es) X.env = (false, eval e X.env) :: starEach es X.env := by rfl) (hpl : (backTo pos (starEach es X.env)).any (·.1) = false := by rfl) : PE X (.Call (.Name x p) (e :: es) [] pos) (tF sp t) := by
  refine ⟨fun pins s σ H Q I h => ?_⟩
  refine wpAny_Call_Name_kw (ld_glob I hg G.g ?_ hd)
  exact PySem.W.callWith_K (h₀ := X.base) I.ok.mod.kin G.kp (thn (ha.run pos pins s σ H _ I h) fun us s1 ⟨vs, H1, I1, r, q⟩ => ⟨I1.kIn, wpAny_call (run_fnR F hr passes0 I1 r q)⟩) he hpl
theorem pe_g0 (F : FnR X.prog X.w X.K X.mg X.base C0 k f sp) (G : Gb X.K X.mg x f) (hr : Room k X.A) (hg : Gl X x) (hd : (x == ("__debug__" : Str)) = false := by decide) : PE X (.Call (.Name x p) [] [] pos) (tF sp tNil) := by
  refine ⟨fun pins s σ H Q I h => ?_⟩
  refine wpAny_Call_Name_kw (ld_glob I hg G.g ?_ hd)
  exact PySem.W.callWith_K0 I.kIn G.kp (wpAny_call (run_fnR (us := []) F hr passes0 I .nil h))
/-- o.m(e, ..) -/
theorem pe_m {pl : Sem Bool} (he : PE X o ta) (M : Ms X.K Cs m f) (F : FnR X.prog X.w X.K X.mg X.base C0 k f sp) (hr : Room k X.A) (ha : PA X (e :: es) t)
    (hst : starEach (e :: es) X.env = (false, eval e X.env) :: starEach es X.env := by rfl) (hpl : (backTo pos (starEach es X.env)).any (·.1) = false := by rfl)
    (ht : eval (.Call (.Attribute o m apos) (e :: es) [] pos) X.env = (do
      let ov ← eval o X.env
      standAt apos.atName
      let (f, first) ← holding [ov] (getMethod ov m pl)
      callWith pos f first (backTo pos (starEach (e :: es) X.env)) (backToKw pos (keywordEach [] X.env))) := by rfl) :
    PE X (.Call (.Attribute o m apos) (e :: es) [] pos) (tM Cs m sp ta t) := by
  refine ⟨fun pins s σ H Q I h => ?_⟩
  refine PySem.W.methodCall_KW (pl := pl) (thn (he.run pins s σ H _ I h) fun u s1 ⟨x, H1, I1, rx, a, D, dx, fs, ex, hD, ea, l, q⟩ => ?_) ht
  subst ex
  obtain rfl : u = Value.ref a := rx
  obtain ⟨c, hm⟩ := M.all D hD
  refine getmeth_ok I1 ea c hm l ?_
  exact PySem.W.callWith_K (first := [.ref a]) (h₀ := X.base) I.ok.mod.kin hm.kp (thn (ha.run pos pins s1 σ H1 _ I1 q) fun us s2 ⟨vs, H2, I2, r, q2⟩ => ⟨I2.kIn, wpAny_call (run_fnR (us := .ref a :: us) (vs := .ref a :: vs) F hr passes0 I2 (.cons rfl r) q2)⟩) hst hpl
theorem pe_m0 {pl : Sem Bool} (he : PE X o ta) (M : Ms X.K Cs m f) (F : FnR X.prog X.w X.K X.mg X.base C0 k f sp) (hr : Room k X.A)
    (ht : eval (.Call (.Attribute o m apos) [] [] pos) X.env = (do
      let ov ← eval o X.env
      standAt apos.atName
      let (f, first) ← holding [ov] (getMethod ov m pl)
      callWith pos f first (backTo pos (starEach [] X.env)) (backToKw pos (keywordEach [] X.env))) := by rfl) :
    PE X (.Call (.Attribute o m apos) [] [] pos) (tM Cs m sp ta tNil) := by
  refine ⟨fun pins s σ H Q I h => ?_⟩
  refine PySem.W.methodCall_KW (pl := pl) (thn (he.run pins s σ H _ I h) fun u s1 ⟨x, H1, I1, rx, a, D, dx, fs, ex, hD, ea, l, q⟩ => ?_) ht
  subst ex
  obtain rfl : u = Value.ref a := rx
  obtain ⟨c, hm⟩ := M.all D hD
  refine getmeth_ok I1 ea c hm l ?_
  exact PySem.W.callWith_K0 (first := [.ref a]) I1.kIn hm.kp (wpAny_call (run_fnR (us := [.ref a]) (vs := [.ref a]) F hr passes0 I1 (.cons rfl .nil) q))
/-- e.f, a property -/
theorem pe_p {fd : FuncData} {ps : List Str} (he : PE X e te) (M : Ps X.K Cs m f) (F : FnOk X.prog X.w X.K X.mg X.base C0 k f fd ps sp) (hb : L2.Binds X.K fd ps []) (hr : Room (k + 1) X.A) (hab : attributeBase e m X.env (eval e X.env) = eval e X.env := by rfl) :
    PE X (.Attribute e m pos) (tP Cs sp te) := by
  refine ⟨fun pins s σ H Q I h => ?_⟩
  refine attr_of hab (thn (he.run pins s σ H _ I h) fun u s1 ⟨x, H1, I1, rx, a, D, dx, fs, ex, hD, ea, q⟩ => ?_)
  subst ex
  obtain rfl : u = Value.ref a := rx
  obtain ⟨c, p, hp⟩ := M.all D hD
  exact getprop_ok (dvs := []) (ds := []) I1 ea c hp F hr hb .nil passes0 q
/-- C.m(e, ..), m a staticmethod of the class at C -/
theorem pe_s {pl : Sem Bool} (he : PE X o ta) (S : Ss X.K C m f) (F : FnR X.prog X.w X.K X.mg X.base C0 k f sp) (hr : Room k X.A) (ha : PA X (e :: es) t)
    (hst : starEach (e :: es) X.env = (false, eval e X.env) :: starEach es X.env := by rfl) (hpl : (backTo pos (starEach es X.env)).any (·.1) = false := by rfl)
    (ht : eval (.Call (.Attribute o m apos) (e :: es) [] pos) X.env = (do
      let ov ← eval o X.env
      standAt apos.atName
      let (f, first) ← holding [ov] (getMethod ov m pl)
      callWith pos f first (backTo pos (starEach (e :: es) X.env)) (backToKw pos (keywordEach [] X.env))) := by rfl) :
    PE X (.Call (.Attribute o m apos) (e :: es) [] pos) (fun σ H Q => ta σ H fun x H1 => x = .ref C ∧ t σ H1 fun vs H2 => sp vs H2 Q EN) := by
  refine ⟨fun pins s σ H Q I h => ?_⟩
  refine PySem.W.methodCall_KW (pl := pl) (thn (he.run pins s σ H _ I h) fun u s1 ⟨x, H1, I1, rx, ex, q⟩ => ?_) ht
  subst ex
  obtain rfl : u = Value.ref C := rx
  obtain ⟨mc, p, rest, r, h1, h2, h3⟩ := S.ex
  refine PySem.W.method_cls I1.kIn r.ga ?_
  refine PySem.W.cls_bind I1.kIn r.rd h1 (wpAny_call (PySem.W.sm_get (s := { s1 with toks := s1.toks + 1 }) I1.kIn h2 (PySem.W.handed_on rfl ?_)))
  exact PySem.W.callWith_K (first := []) (h₀ := X.base) I.ok.mod.kin h3 (thn (ha.run pos pins _ σ H1 _ (I1.tok (s1.toks + 1)) q) fun us s2 ⟨vs, H2, I2, r, q2⟩ => ⟨I2.kIn, wpAny_call (run_fnR (us := us) (vs := vs) F hr passes0 I2 r q2)⟩) hst hpl
/-- C.m(), m a classmethod of the class at C -/
theorem pe_c0 {pl : Sem Bool} {mc : Value} {q : Addr} (he : PE X o ta) (r : ClX.CRead X.K C mc) (c : ClX.CMet X.K C mc m q f) (F : FnR X.prog X.w X.K X.mg X.base C0 k f sp) (hr : Room k X.A)
    (ht : eval (.Call (.Attribute o m apos) [] [] pos) X.env = (do
      let ov ← eval o X.env
      standAt apos.atName
      let (f, first) ← holding [ov] (getMethod ov m pl)
      callWith pos f first (backTo pos (starEach [] X.env)) (backToKw pos (keywordEach [] X.env))) := by rfl) :
    PE X (.Call (.Attribute o m apos) [] [] pos) (fun σ H Q => ta σ H fun x H1 => x = .ref C ∧ sp [.ref C] H1 Q EN) := by
  refine ⟨fun pins s σ H Q I h => ?_⟩
  refine PySem.W.methodCall_KW (pl := pl) (thn (he.run pins s σ H _ I h) fun u s1 ⟨x, H1, I1, rx, ex, q⟩ => ?_) ht
  subst ex
  obtain rfl : u = Value.ref C := rx
  refine ClX.getmethcm_ok I1 r c fun s2 I2 => ?_
  have hp := ClX.pin_at I2
  have hL := (I2.pin (_, PySem.W.methodObj (.ref f) (.ref C)) (List.mem_append_right _ List.mem_cons_self)).2.2.1
  exact PySem.W.callWith_of rfl (PySem.W.keeps_M c.fi) (evalArgs_nil3 ⟨⟨hp, I2.kIn⟩, ClX.run_cm (us := []) (vs := []) F hr passes0 I2 .nil q⟩)
end
end Wk
end
section
set_option maxHeartbeats 4000000
/-! A field as a target; get on a written dict of the module. -/
namespace Wk
open PySem PySem.Spec PyProof.Rows L2 Cl
/-- o.f as a target within others -/
def gFld (K : PySem.W.Frag) (to : TE) (f : Str) : TG := fun v σ H Q => to σ H fun x H1 => ∃ a C dx fs, x = .ref a ∧ H1 a = some (.ins C dx fs) ∧ Cls K C ∧ NoAttr K C f ∧ fs.length < 1000 ∧ Q σ (upd H1 a (.ins C dx (putF f v fs)))
section
variable {X : Cx} {o : Expr} {to : TE} {f : Str} {pos : Pos}
theorem pg_fld (ho : PE X o to) : PG X (.Attribute o f pos) (gFld X.K to f) := by
  refine ⟨fun pins s σ H v u Q I r h => ?_⟩
  rw [PySem.assign_Attribute]
  refine wpAny_bind (wpAny_holding (thn (ho.run pins s σ H _ I h) fun ov s1 ⟨x, H1, I1, rx, a, C, dx, fs, ex, ea, c, n, l, q⟩ => ?_))
  subst ex
  obtain rfl : ov = Value.ref a := rx
  refine wpAny_bind (wpAny_standAt (wpAny_bind (wpAny_holding (setattr_ok I1 ea c n l r fun s2 I2 => ?_))))
  exact wpAny_release ⟨σ, _, I2, q⟩
end
section
variable {X : Cx} {o e f : Expr} {apos cpos : Pos} {td ty tx : TE} {d : Addr} {es : Array DictEntry} {n : Nat}
/-- d.get(k, x), d a written dict of the module -/
theorem pe_kget (D : KDict X.K X.w d es n) (ho : PE X o td) (he : PE X e ty) (hf : PE X f tx) (m : M2 X o "get" apos e f cpos) :
    PE X (.Call (.Attribute o "get" apos) [e, f] [] cpos) (fun σ H Q => td σ H fun x H1 => x = .ref d ∧ ty σ H1 fun y H2 => tx σ H2 fun z H3 => ∃ (k : Str) (r : Option Value), y = .str k ∧ PySem.W.nsIn X.K d k = some r ∧
      match r with | none => Q z H3 | some u0 => ∃ v0, RelV v0 u0 ∧ Q v0 H3) := by
  refine ⟨fun pins s σ H Q I h => ?_⟩
  refine wpAny_Call_method m.base m.few m.line PySem.F.plainAttrs_dict PySem.F.slot_dict_get PySem.F.type_dict_get (thn (ho.run pins s σ H _ I h) fun u s1 ⟨x, H1, I1, rx, ex, q1⟩ => ?_)
  subst ex
  obtain rfl : u = Value.ref d := rx
  have mp := PySem.W.mapOf_K (prog := X.prog) (w := X.w) I1.kIn D.at_ D.lit
  refine ⟨mp.typeIs, mp.noDict, ?_⟩
  rw [m.trees]
  refine Calls.callWith_builtin rfl (Calls.evalArgs_plain (Calls.spliced_cons (thn (he.run pins s1 σ H1 _ I1 q1) fun iv s2 ⟨y, H2, I2, ry, q2⟩ =>
    Calls.spliced_cons (thn (hf.run pins s2 σ H2 _ I2 q2) fun fv s3 ⟨z, H3, I3, rz, k, r, ey, er, q3⟩ => Calls.spliced_nil ?_))))
  subst ey
  obtain ⟨t, rfl⟩ := (show ∃ t, iv = Value.str k t from ry)
  have mp3 := PySem.W.mapOf_K (prog := X.prog) (w := X.w) I3.kIn D.at_ D.lit
  refine call_meetsIn PySem.F.slot_dict_get mp3.typeIs PySem.F.entry_dict_get (PySem.F.args_dict_get_3 _ _ _) (meets_dict_get_default (strKind X.prog X.w) d (PySem.strKind_is X.prog X.w k t) D.low fv) ⟨_, mp3, ?_⟩
  rw [PySem.W.find_K D.at_ er]
  cases r with
  | none => exact ⟨z, H3, I3.tok _, rz, q3⟩
  | some u0 =>
    obtain ⟨v0, r0, q4⟩ := q3
    exact ⟨v0, H3, I3.tok _, r0, q4⟩
end
end Wk
end
section
set_option maxHeartbeats 4000000
/-! The readings of comprehensions and loops, in one form. -/
namespace Wk
open PySem PySem.Spec PyProof.Rows L2 Cl
theorem ifD {c A B : Prop} [Decidable c] (h1 : c → A) (h2 : ¬ c → B) : if decide c = true then A else B := by
  by_cases h : c
  · rw [if_pos (decide_eq_true h)]; exact h1 h
  · rw [if_neg (by rw [decide_eq_false h]; decide)]; exact h2 h
/-- all but the lists stay -/
def ExtL (H H' : Hp) : Prop := ∀ b o, H b = some o → (∀ ys, o ≠ .lst ys) → H' b = some o
theorem Ex.l {H H' : Hp} (e : Ex H H') : ExtL H H' := fun b o h _ => e b o h
theorem ExtL.trans {H H1 H2 : Hp} (a : ExtL H H1) (b : ExtL H1 H2) : ExtL H H2 := fun c o h n => b c o (a c o h n) n
theorem extL_lst {H : Hp} {D : Addr} {xs ys : List V} (h : H D = some (.lst xs)) : ExtL H (upd H D (.lst ys)) := fun b o e n => by
  rw [upd_ne (fun z => by rw [z, h] at e; cases e; exact n _ rfl)]; exact e
theorem ext_lst {H1 H : Hp} {D : Addr} {ys : List V} (h : H1 D = none) (e : Ex H1 H) : Ex H1 (upd H D (.lst ys)) := fun b o q => by
  rw [upd_ne (ne_of_none q h)]; exact e b o q
/-- what a turn tells of its place: the value that it adds, or none -/
abbrev RT := Nat → Option V → Hp → Prop
def MonR (R : RT) : Prop := ∀ j o H H', ExtL H H' → R j o H → R j o H'
/-- behind i turns -/
def LcP (H1 : Hp) (D : Addr) (R : RT) (i : Nat) (H : Hp) : Prop := Ex H1 H ∧ ∃ outs : List (Option V), outs.length = i ∧ H D = some (.lst (outs.filterMap id)) ∧ ∀ j o, outs[j]? = some o → R j o H
theorem LcP.start {H1 : Hp} {D : Addr} {R : RT} (h : H1 D = none) : LcP H1 D R 0 (upd H1 D (.lst [])) := ⟨ext_lst h (Ex.refl _), [], rfl, upd_same, fun j o e => by simp at e⟩
theorem snoc_at {α : Type} {l : List α} {y o : α} {j : Nat} (e : (l ++ [y])[j]? = some o) : l[j]? = some o ∨ (j = l.length ∧ o = y) := by
  by_cases h : j < l.length
  · rw [List.getElem?_append_left h] at e; exact .inl e
  · rw [List.getElem?_append_right (by omega)] at e
    by_cases h2 : j - l.length = 0
    · rw [h2] at e
      exact .inr ⟨by omega, by simpa using e.symm⟩
    · rw [List.getElem?_eq_none (by simp; omega)] at e; cases e
theorem LcP.yes {H1 H H4 : Hp} {D : Addr} {R : RT} {i : Nat} {y : V} (hm : MonR R) (hn : H1 D = none) (p : LcP H1 D R i H) (e : Ex H H4) (r : R i (some y) H4) (hz : i < sizeLine) :
    ∃ acc, H4 D = some (.lst acc) ∧ acc.length < sizeLine ∧ LcP H1 D R (i + 1) (upd H4 D (.lst (acc ++ [y]))) := by
  obtain ⟨e1, outs, hl, hD, hr⟩ := p
  have hD4 := e _ _ hD
  have hx := extL_lst (ys := outs.filterMap id ++ [y]) hD4
  refine ⟨_, hD4, Nat.lt_of_le_of_lt (by rw [← hl]; exact List.length_filterMap_le ..) hz, ext_lst hn (e1.trans e), outs ++ [some y], by simp [hl], by rw [upd_same]; simp, fun j o q => ?_⟩
  rcases snoc_at q with z | ⟨z1, z2⟩
  · exact hm _ _ _ _ ((Ex.l e).trans hx) (hr j o z)
  · subst z2
    rw [z1, hl]
    exact hm _ _ _ _ hx r
theorem LcP.no {H1 H H4 : Hp} {D : Addr} {R : RT} {i : Nat} (hm : MonR R) (p : LcP H1 D R i H) (e : Ex H H4) (r : R i none H4) : LcP H1 D R (i + 1) H4 := by
  obtain ⟨e1, outs, hl, hD, hr⟩ := p
  refine ⟨e1.trans e, outs ++ [none], by simp [hl], by rw [e _ _ hD]; simp, fun j o q => ?_⟩
  rcases snoc_at q with z | ⟨z1, z2⟩
  · exact hm _ _ _ _ (Ex.l e) (hr j o z)
  · subst z2
    rw [z1, hl]
    exact r
/-- a walked thing of n items -/
structure Walk (J : It) (H1 : Hp) (n : Nat) (item : Nat → V → Prop) : Prop where
  go : ∀ i H, Ex H1 H → i < n → J.go i H
  yld : ∀ i H x H', Ex H1 H → i < n → J.yld i H x H' → H' = H ∧ item i x
  stop : ∀ H, Ex H1 H → J.stop n H
theorem Walk.mono {J : It} {H1 H2 : Hp} {n : Nat} {item : Nat → V → Prop} (w : Walk J H1 n item) (e : Ex H1 H2) : Walk J H2 n item := ⟨fun i H q => w.go i H (e.trans q), fun i H x H' q => w.yld i H x H' (e.trans q), fun H q => w.stop H (e.trans q)⟩
theorem walk_range {lo : Int} {n : Nat} {H1 : Hp} : Walk (Itr lo n) H1 n (fun i x => x = .int (lo + i)) := ⟨fun i H _ h => h, fun i H x H' _ _ h => h, fun H _ => Nat.le_refl n⟩
theorem sqT_ext {K : PySem.W.Frag} {H H' : Hp} {a : Addr} {xs : List V} (h : SqT K H a xs) (e : Ex H H') : SqT K H' a xs := L2.SqT.ext h e
theorem sqL_ext {K : PySem.W.Frag} {H H' : Hp} {a : Addr} {xs : List V} (h : SqL K H a xs) (e : Ex H H') : SqL K H' a xs := L2.SqL.ext h e
theorem walk_tup {K : PySem.W.Frag} {a : Addr} {xs : List V} {H1 : Hp} (h : SqT K H1 a xs) : Walk (Itt K a) H1 xs.length (fun i x => xs[i]? = some x) :=
  ⟨fun i H e hi => ⟨xs, xs[i], sqT_ext h e, by simp [hi]⟩, fun i H x H' e _ q => ⟨q.1, q.2 _ (sqT_ext h e)⟩, fun H e => ⟨xs, sqT_ext h e, Nat.le_refl _⟩⟩
theorem walk_lst {K : PySem.W.Frag} {a : Addr} {xs : List V} {H1 : Hp} (h : SqL K H1 a xs) : Walk (Itl K a) H1 xs.length (fun i x => xs[i]? = some x) :=
  ⟨fun i H e hi => ⟨xs, xs[i], sqL_ext h e, by simp [hi]⟩, fun i H x H' e _ q => ⟨q.1, q.2 _ (sqL_ext h e)⟩, fun H e => ⟨xs, sqL_ext h e, Nat.le_refl _⟩⟩
/-- a comprehension over such a thing -/
theorem lc_by {J : It} {H1 : Hp} {n : Nat} {item : Nat → V → Prop} {g : TG} {tt : TT} {te : TE} {vs : List Nat} {σ : L2.St} {D : Addr} {Qd : Hp → Prop} {R : RT} (wk : Walk J H1 n item) (hn : H1 D = none)
    (hs : ∀ i x H, i < n → item i x → LcP H1 D R i H → g x (wipe σ vs) H fun σ2 H2 => wipe σ2 vs = wipe σ vs ∧ tt σ2 H2 fun b H3 =>
      if b = true then te σ2 H3 fun y H4 => ∃ acc, H4 D = some (.lst acc) ∧ acc.length < sizeLine ∧ LcP H1 D R (i + 1) (upd H4 D (.lst (acc ++ [y]))) else LcP H1 D R (i + 1) H3) (hd : ∀ H, LcP H1 D R n H → Qd H) :
    ∃ W : Nat → Nat → Hp → Prop, (∃ m, W 0 m (upd H1 D (.lst []))) ∧ ∀ i m H, W i m H →
      (J.stop i H ∧ Qd H) ∨ (J.go i H ∧ ∃ Nx : Hp → Prop, (∀ H', Nx H' → ∃ m', m' < m ∧ W (i + 1) m' H') ∧ ∀ x H', J.yld i H x H' → g x (wipe σ vs) H' fun σ2 H2 => wipe σ2 vs = wipe σ vs ∧ tt σ2 H2 fun b H3 =>
        if b = true then te σ2 H3 fun y H4 => ∃ acc, H4 D = some (.lst acc) ∧ acc.length < sizeLine ∧ Nx (upd H4 D (.lst (acc ++ [y]))) else Nx H3) := by
  refine ⟨fun i m H => m = n - i ∧ i ≤ n ∧ LcP H1 D R i H, ⟨n, by simp, Nat.zero_le _, LcP.start hn⟩, ?_⟩
  rintro i m H ⟨rfl, hi, p⟩
  by_cases hlt : i < n
  · refine .inr ⟨wk.go i H p.1 hlt, LcP H1 D R (i + 1), fun H' p' => ⟨n - (i + 1), by omega, rfl, hlt, p'⟩, fun x H' y => ?_⟩
    obtain ⟨e, q⟩ := wk.yld i H x H' p.1 hlt y
    subst e
    exact hs i x _ hlt q p
  · have e : i = n := by omega
    subst e
    exact .inl ⟨wk.stop H p.1, hd H p⟩
/-- a for over such a thing -/
theorem for_by {J : It} {H1 : Hp} {n : Nat} {item : Nat → V → Prop} {g : TG} {tb : TS} {D : Ends} {σ : L2.St} (wk : Walk J H1 n item) (Pv : Nat → L2.St → Hp → Prop) (h0 : Pv 0 σ H1) (hx : ∀ i σ H, i ≤ n → Pv i σ H → Ex H1 H)
    (hs : ∀ i x σ H, i < n → item i x → Pv i σ H → g x σ H fun σ2 H2 => tb { D with nx := Pv (i + 1), ct := Pv (i + 1), bk := D.nx } σ2 H2) (hd : ∀ σ H, Pv n σ H → D.nx σ H) :
    ∃ W : Nat → Nat → L2.St → Hp → Prop, (∃ m, W 0 m σ H1) ∧ ∀ i m σ H, W i m σ H →
      (J.stop i H ∧ D.nx σ H) ∨ (J.go i H ∧ ∃ N : L2.St → Hp → Prop, (∀ σ' H', N σ' H' → ∃ m', m' < m ∧ W (i + 1) m' σ' H') ∧ ∀ x H', J.yld i H x H' → g x σ H' fun σ2 H2 => tb { D with nx := N, ct := N, bk := D.nx } σ2 H2) := by
  refine ⟨fun i m σ H => m = n - i ∧ i ≤ n ∧ Pv i σ H, ⟨n, by simp, Nat.zero_le _, h0⟩, ?_⟩
  rintro i m σ H ⟨rfl, hi, p⟩
  have e1 := hx i σ H hi p
  by_cases hlt : i < n
  · refine .inr ⟨wk.go i H e1 hlt, Pv (i + 1), fun σ' H' p' => ⟨n - (i + 1), by omega, rfl, hlt, p'⟩, fun x H' y => ?_⟩
    obtain ⟨e, q⟩ := wk.yld i H x H' e1 hlt y
    subst e
    exact hs i x σ _ hlt q p
  · have e : i = n := by omega
    subst e
    exact .inl ⟨wk.stop H e1, hd σ H p⟩
end Wk
end
section
set_option maxHeartbeats 4000000
/-! The text by places; the first defs. -/
namespace Wk
open PySem PySem.Spec PyProof.Rows L2 Cl
abbrev FD (K : PySem.W.Frag) (x qual : Str) (st : Stmt) (f : Addr) (fd : FuncData) : Prop := FunD K x qual (defArgs st) (defBody st) (defScope st) [] [] f fd
section
variable {P : Program} {w : World} {K : PySem.W.Frag} {mg : Str → Option Value} {base : Heap} {x qual : Str} {st : Stmt} {f : Addr} {fd : FuncData} {N ps : List Str} {k : Nat} {sp : Sp}
theorem okOf (F : FD K x qual st f fd) (S : FnScope N ps (defScope st)) (len : ∀ vs H Q E, sp vs H Q E → vs.length = ps.length)
    (hbody : ∀ (cdv : Value) (A : Around) (outer : List Env) (s : Shared) (H : Hp) (vs : List V) (Q : VK) (E : XK), Room k (A.deeper (envOfC qual (defScope st) s.heap.objs.size f cdv)) → sp vs H Q E →
      ∃ t, PSs (cxOf C0 P w K mg base N qual (defScope st) f cdv A outer s H E).nox (defBody st) t ∧ t { nx := fun _ H' => Q .non H', rt := Q } (start N vs) H) : FnOk P w K mg base C0 (k + 1) f fd ps sp :=
  F.ok S len fun cdv A outer s H vs Q E hr h => let ⟨t, h1, h2⟩ := hbody cdv A outer s H vs Q E hr h; ⟨t, h1.nox, h2⟩
theorem rawOf (G : FnOk P w K mg base C0 k f fd ps sp) (hb : L2.Binds K fd ps []) : FnR P w K mg base C0 k f sp :=
  (G.raw hb .nil).imp fun vs H Q E h => by rw [List.append_nil]; exact h
end
/-- the built-ins that the text uses are its own names for nothing -/
structure Bl (mg : Str → Option Value) : Prop where
  abs : mg "abs" = none
  isinstance : mg "isinstance" = none
  int : mg "int" = none
  bool : mg "bool" = none
  tuple : mg "tuple" = none
  list : mg "list" = none
  dict : mg "dict" = none
  str : mg "str" = none
  len : mg "len" = none
  all : mg "all" = none
  range : mg "range" = none
  enumerate : mg "enumerate" = none
/-! ### greatest_divisor -/
theorem gcd_step (x y : Int) : Int.gcd y (x % y) = Int.gcd y x := by
  rw [Int.emod_def]
  exact Int.gcd_sub_mul_left_right ..
theorem scGcd : FnScope ["one", "other"] ["one", "other"] (defScope sGcd) := ⟨rfl, rfl, rfl, by decide +kernel, rfl, by decide +kernel, by decide +kernel⟩
def spGcd : Sp := fun vs H Q _ => ∃ i j : Int, vs = [.int i, .int j] ∧ Q (.int (Int.gcd i j : Nat)) H
section
variable {P : Program} {w : World} {K : PySem.W.Frag} {mg : Str → Option Value} {base : Heap} {f : Addr} {fd : FuncData}
theorem ok_gcd (F : FD K "greatest_divisor" "greatest_divisor" sGcd f fd) (B : Bl mg) : FnR P w K mg base C0 1 f spGcd := by
  refine rawOf (okOf F scGcd (fun vs H Q E h => ?_) fun cdv A outer s H vs Q E hr h => ?_) (F.bindsN fun _ _ _ _ _ _ us hl => match us, hl with | [_, _], _ => rfl)
  · obtain ⟨_, _, rfl, _⟩ := h; rfl
  obtain ⟨i, j, rfl, hQ⟩ := h
  refine ⟨_, pss_cons (ps_par (i := 0) (j := 1) rfl scGcd.nd rfl rfl (by decide) rfl rfl (pa_cons (pe_callB call_abs rfl B.abs (by decide +kernel) (pa_cons (pv 0) pa_nil)) (pa_cons (pe_callB call_abs rfl B.abs (by decide +kernel) (pa_cons (pv 1) pa_nil)) pa_nil)) rfl)
    (pss_cons (ps_while PassesOwn.never (pt_cmpR op_gt (pv 1) pe_int (nomark _)) (pss_one (ps_par (i := 0) (j := 1) rfl scGcd.nd rfl rfl (by decide) rfl rfl (pa_cons (pv 1) (pa_cons (pe_op op_mod (pv 0) (pv 1)) pa_nil)) rfl)))
    (pss_one (ps_ret (pv 0)))), ?_⟩
  refine ⟨_, rfl, _, rfl, _, rfl, _, rfl, _, _, rfl, ?_⟩
  have ab : ∀ n : Int, (if n < 0 then -n else n) = (n.natAbs : Int) := fun n => by split <;> omega
  refine while_by (fun σ H' => H' = H ∧ ∃ x y : Int, σ = [some (.int x), some (.int y)] ∧ 0 ≤ x ∧ 0 ≤ y ∧ Int.gcd x y = Int.gcd i j) (fun σ _ => match σ with | [_, some (.int y)] => y.toNat | _ => 0) ⟨rfl, _, _, rfl, ?_, ?_, ?_⟩ ?_ ?_
  · split <;> omega
  · split <;> omega
  · rw [ab, ab, Int.gcd, Int.gcd, Int.natAbs_natCast, Int.natAbs_natCast]
  · rintro σ H' ⟨rfl, x, y, rfl, hx, hy, hg⟩
    refine ⟨_, rfl, _, _, rfl, rfl, _, rfl, ?_⟩
    refine ifD (fun h0 => ?_) fun h0 => ?_
    · refine ⟨_, rfl, _, rfl, _, rfl, _, _, rfl, rfl, h0, _, _, rfl, ⟨rfl, _, _, rfl, hy, Int.emod_nonneg _ (by omega), ?_⟩, ?_⟩
      · rw [← hg, Int.gcd_comm x y]
        exact gcd_step x y
      · show (x % y).toNat < y.toNat
        have := Int.emod_lt_of_pos x h0
        have := Int.emod_nonneg x (show y ≠ 0 by omega)
        omega
    · have e : y = 0 := by omega
      subst e
      rw [Int.gcd_zero_right] at hg
      refine ⟨_, rfl, ?_⟩
      rw [← hg, Int.natAbs_of_nonneg hx] at hQ
      exact hQ
  · rintro σ H' Q1 Q2 hq ⟨v, e, i, j, e1, e2, b, e3, h⟩
    exact ⟨v, e, i, j, e1, e2, b, e3, hq _ _ h⟩
/-! ### is_integer .. -/
theorem scIsInt : FnScope ["value"] ["value"] (defScope sIsInt) := ⟨rfl, rfl, rfl, by decide +kernel, rfl, by decide +kernel, by decide +kernel⟩
def spIsInt : Sp := fun vs H Q _ => ∃ i : Int, vs = [.int i] ∧ Q (.bl true) H
theorem bI : bootBuiltins "int" = some (.type "int") := by decide +kernel
theorem bB : bootBuiltins "bool" = some (.type "bool") := by decide +kernel
theorem bT : bootBuiltins "tuple" = some (.type "tuple") := by decide +kernel
theorem bS : bootBuiltins "str" = some (.type "str") := by decide +kernel
theorem bIsi : bootBuiltins "isinstance" = some (.builtin "isinstance") := by decide +kernel
theorem bAll : bootBuiltins "all" = some (.builtin "all") := by decide +kernel
theorem ok_isInt (F : FD K "is_integer" "is_integer" sIsInt f fd) (B : Bl mg) : FnR P w K mg base C0 1 f spIsInt := by
  refine rawOf (okOf F scIsInt (fun vs H Q E h => ?_) fun cdv A outer s H vs Q E hr h => ?_) (F.bindsN fun _ _ _ _ _ _ us hl => match us, hl with | [_], _ => rfl)
  · obtain ⟨_, rfl, _⟩ := h; rfl
  obtain ⟨i, rfl, hQ⟩ := h
  refine ⟨_, pss_one (ps_ret (pe_and (pe_callB call_isi rfl B.isinstance bIsi (pa_cons (pv 0) (pa_cons (pe_bltn (v := .ty "int") rfl B.int bI rfl) pa_nil)))
    (pe_one (pe_not (pe_callB call_isi rfl B.isinstance bIsi (pa_cons (pv 0) (pa_cons (pe_bltn (v := .ty "bool") rfl B.bool bB rfl) pa_nil))))))), ?_⟩
  refine ⟨_, rfl, _, _, _, _, true, rfl, .ty "int", .base (.int i), kit_ty (by decide +kernel), true, rfl, ?_⟩
  refine iteT ⟨_, rfl, _, _, _, _, false, rfl, .ty "bool", .base (.int i), kit_ty (by decide +kernel), false, rfl, hQ⟩
end
end Wk
end
section
set_option maxHeartbeats 4000000
/-! Places, numbers, divisors. -/
namespace Wk
open PySem PySem.Spec PyProof.Rows L2 Cl
/-- the outs that all are some of one list -/
theorem outs_some {outs : List (Option V)} {ys : List V} (hl : outs.length = ys.length) (h : ∀ (j : Nat) (o : Option V), outs[j]? = some o → ∃ y : V, ys[j]? = some y ∧ o = some y) : outs.filterMap id = ys := by
  have e : outs = ys.map some := by
    refine List.ext_getElem? fun j => ?_
    by_cases hj : j < outs.length
    · obtain ⟨y, h1, h2⟩ := h j outs[j] (by simp [hj])
      rw [List.getElem?_eq_getElem hj, h2, List.getElem?_map, h1]
      rfl
    · rw [List.getElem?_eq_none (by omega), List.getElem?_eq_none (by rw [List.length_map]; omega)]
  rw [e]
  simp [List.filterMap_map]
theorem scIsPlace : FnScope ["value", "number"] ["value"] (defScope sIsPlace) := ⟨rfl, rfl, rfl, by decide +kernel, rfl, by decide +kernel, by decide +kernel⟩
def spIsPlace : Sp := fun vs H Q _ => ∃ (t : Addr) (x y : Int), vs = [.ref t] ∧ H t = some (.tup [.int x, .int y]) ∧ ∀ H', Ex H H' → Q (.bl true) H'
section
variable {P : Program} {w : World} {K : PySem.W.Frag} {mg : Str → Option Value} {base : Heap} {f fI : Addr} {fd : FuncData}
theorem ok_isPlace (F : FD K "is_place" "is_place" sIsPlace f fd) (B : Bl mg) (FI : FnR P w K mg base C0 1 fI spIsInt) (GI : Gb K mg "is_integer" fI) : FnR P w K mg base C0 2 f spIsPlace := by
  refine rawOf (okOf F scIsPlace (fun vs H Q E h => ?_) fun cdv A outer s H vs Q E hr h => ?_) (F.bindsN fun _ _ _ _ _ _ us hl => match us, hl with | [_], _ => rfl)
  · obtain ⟨_, _, _, rfl, _⟩ := h; rfl
  obtain ⟨t, x, y, rfl, ht, hQ⟩ := h
  refine ⟨_, pss_one (ps_ret (pe_and (pe_callB call_isi rfl B.isinstance bIsi (pa_cons (pv 0) (pa_cons (pe_bltn (v := .ty "tuple") rfl B.tuple bT rfl) pa_nil)))
    (pe_and (pe_cmpR op_eq (pe_callB call_len_seq rfl B.len PySem.boot_len (pa_cons (pv 0) pa_nil)) pe_int (nomark _))
    (pe_one (pe_callB (cr_all rfl) rfl B.all bAll (pa_cons (pe_lc (own := [("number", 1)]) (g := gName 1) (tt := tYes) rfl scIsPlace.nd (pi_tup (pv 0)) (blkOk_by (N := ["value", "number"]) (sc := defScope sIsPlace) (by decide +kernel))
      (fun _ _ _ _ _ => pg_name (i := 1) scIsPlace.nd rfl (Or.inl rfl)) (fun _ _ _ _ _ => pts_nil) (fun _ _ _ _ _ => pe_g FI GI hr rfl (pa_cons (pv 1) pa_nil))) pa_nil)))))), ?_⟩
  refine ⟨_, rfl, _, _, _, _, true, rfl, .ty "tuple", .base (.tup ht), kit_ty (by decide +kernel), true, rfl, ?_⟩
  refine iteT ⟨_, rfl, t, _, rfl, .inr (SqT.of ht), rfl, true, ?_, ?_⟩
  · rfl
  refine iteT ⟨_, rfl, t, rfl, ⟨_, SqT.of ht⟩, fun D hD => ?_⟩
  refine lc_by (R := fun j o _ => j < 2 ∧ o = some (.bl true)) (walk_tup (SqT.of ht)) hD (fun i v H1 hi hv p => ?_) (fun H1 p => ?_)
  · refine ⟨rfl, ?_⟩
    have hint : ∃ n : Int, v = .int n := by
      match i, hi with
      | 0, _ => exact ⟨x, by simpa using hv.symm⟩
      | 1, _ => exact ⟨y, by simpa using hv.symm⟩
    obtain ⟨n, rfl⟩ := hint
    refine ⟨_, rfl, n, rfl, ?_⟩
    exact p.yes (fun j o H H' _ r => r) hD (Ex.refl _) ⟨hi, rfl⟩ (by have : i < 2 := hi; exact Nat.lt_of_lt_of_le this (by decide))
  · obtain ⟨e, outs, hl, hDl, ho⟩ := p
    have e2 : outs.filterMap id = [true, true].map V.bl := outs_some (ys := [true, true].map V.bl) hl fun j o q => by
      obtain ⟨h1, h2⟩ := ho j o q
      match j, h1 with
      | 0, _ => exact ⟨_, rfl, h2⟩
      | 1, _ => exact ⟨_, rfl, h2⟩
    rw [e2] at hDl
    exact ⟨D, [true, true], rfl, SqL.of hDl, hQ _ e⟩
end
end Wk
end
section
set_option maxHeartbeats 4000000
/-! check_place, check_number, bezout, divisors, plus, minus. -/
namespace Wk
open PySem PySem.Spec PyProof.Rows L2 Cl
theorem fm_divs (n : Int) : ∀ l : List Nat, (l.map fun (j : Nat) => if n % (1 + (j : Int)) = 0 then some (V.int (1 + (j : Int))) else none).filterMap id = ((l.map fun (j : Nat) => 1 + (j : Int)).filter fun d => decide (n % d = 0)).map V.int
  | [] => rfl
  | j :: r => by
    by_cases h : n % (1 + (j : Int)) = 0
    · rw [List.map_cons, if_pos h, List.map_cons, List.filter_cons_of_pos (by simpa using h), List.map_cons, ← fm_divs n r]; rfl
    · rw [List.map_cons, if_neg h, List.map_cons, List.filter_cons_of_neg (by simpa using h), ← fm_divs n r]; rfl
theorem scChkPlace : FnScope ["value"] ["value"] (defScope sChkPlace) := ⟨rfl, rfl, rfl, by decide +kernel, rfl, by decide +kernel, by decide +kernel⟩
def spChkPlace : Sp := fun vs H Q _ => ∃ (t : Addr) (x y : Int), vs = [.ref t] ∧ H t = some (.tup [.int x, .int y]) ∧ ∀ H', Ex H H' → Q .non H'
theorem scChkNum : FnScope ["value", "low", "high"] ["value", "low", "high"] (defScope sChkNum) := ⟨rfl, rfl, rfl, by decide +kernel, rfl, by decide +kernel, by decide +kernel⟩
def spChkNum : Sp := fun vs H Q _ => ∃ (i l : Int), vs = [.int i, .int l, .non] ∧ l ≤ i ∧ Q .non H
theorem scBez : FnScope ["one", "other", "first", "second", "times"] ["one", "other"] (defScope sBez) := ⟨rfl, rfl, rfl, by decide +kernel, rfl, by decide +kernel, by decide +kernel⟩
def spBez : Sp := fun vs H Q _ => ∃ (a p : Int), vs = [.int a, .int p] ∧ 0 < a ∧ 0 < p ∧ a < 1073741824 ∧ p < 1073741824 ∧ ∀ t d u H', Ex H H' → H' t = some (.tup [.int d, .int u]) → Mn.Bez a p d u → Q (.ref t) H'
theorem scDivs : FnScope ["number", "divisor"] ["number"] (defScope sDivs) := ⟨rfl, rfl, rfl, by decide +kernel, rfl, by decide +kernel, by decide +kernel⟩
def divs (n : Int) : List Int := ((List.range n.toNat).map fun (j : Nat) => 1 + (j : Int)).filter fun d => decide (n % d = 0)
def spDivs : Sp := fun vs H Q _ => ∃ (n : Int), vs = [.int n] ∧ 0 < n ∧ n ≤ 1000000 ∧ ∀ D H', Ex H H' → H' D = some (.lst ((divs n).map V.int)) → Q (.ref D) H'
theorem scPlus : FnScope ["one", "other"] ["one", "other"] (defScope sPlus) := ⟨rfl, rfl, rfl, by decide +kernel, rfl, by decide +kernel, by decide +kernel⟩
def spPlus : Sp := fun vs H Q _ => ∃ (s t : Addr) (x y u v : Int), vs = [.ref s, .ref t] ∧ H s = some (.tup [.int x, .int y]) ∧ H t = some (.tup [.int u, .int v]) ∧ ∀ p H', Ex H H' → H' p = some (.tup [.int (x + u), .int (y + v)]) → Q (.ref p) H'
section
variable {P : Program} {w : World} {K : PySem.W.Frag} {mg : Str → Option Value} {base : Heap} {f fI fP : Addr} {fd : FuncData}
theorem ok_chkPlace (F : FD K "check_place" "check_place" sChkPlace f fd) (FP : FnR P w K mg base C0 2 fP spIsPlace) (GP : Gb K mg "is_place" fP) : FnR P w K mg base C0 3 f spChkPlace := by
  refine rawOf (okOf F scChkPlace (fun vs H Q E h => ?_) fun cdv A outer s H vs Q E hr h => ?_) (F.bindsN fun _ _ _ _ _ _ us hl => match us, hl with | [_], _ => rfl)
  · obtain ⟨_, _, _, rfl, _⟩ := h; rfl
  obtain ⟨t, x, y, rfl, ht, hQ⟩ := h
  refine ⟨_, pss_one (ps_if (pt_not (pt_val (pe_g FP GP hr rfl (pa_cons (pv 0) pa_nil)))) pss_never pss_nil), ?_⟩
  refine ⟨_, rfl, t, x, y, rfl, ht, fun H' e => ⟨true, rfl, ?_⟩⟩
  exact iteF (hQ H' e)
theorem ok_chkNum (F : FD K "check_number" "check_number" sChkNum f fd) (FI : FnR P w K mg base C0 1 fI spIsInt) (GI : Gb K mg "is_integer" fI) : FnR P w K mg base C0 2 f spChkNum := by
  refine rawOf (okOf F scChkNum (fun vs H Q E h => ?_) fun cdv A outer s H vs Q E hr h => ?_) (F.bindsN fun _ _ _ _ _ _ us hl => match us, hl with | [_, _, _], _ => rfl)
  · obtain ⟨_, _, rfl, _⟩ := h; rfl
  obtain ⟨i, l, rfl, hl, hQ⟩ := h
  refine ⟨_, pss_one (ps_if (PW.pt (pw_or (pt_not (pt_val (pe_g FI GI hr rfl (pa_cons (pv 0) pa_nil)))) (pw_or (pt_cmpR op_lt (pv 0) (pv 1) (nomark _)) (pw_or1 (PW.pt (pw_and (pt_cmpR op_notN (pv 2) pe_non (nomark _)) (pw_and1 (pt_cmpR op_gt (pv 0) (pv 2) (nomark _)))))))))
    pss_never pss_nil), ?_⟩
  refine ⟨_, rfl, i, rfl, true, rfl, ?_⟩
  refine iteF ⟨_, rfl, _, rfl, _, _, rfl, rfl, _, rfl, ?_⟩
  refine ifD (fun h => by omega) fun _ => ?_
  refine ⟨_, rfl, rfl, _, rfl, ?_⟩
  exact iteF (iteF hQ)
theorem ok_plus (F : FD K "plus" "plus" sPlus f fd) : FnR P w K mg base C0 1 f spPlus := by
  refine rawOf (okOf F scPlus (fun vs H Q E h => ?_) fun cdv A outer s H vs Q E hr h => ?_) (F.bindsN fun _ _ _ _ _ _ us hl => match us, hl with | [_, _], _ => rfl)
  · obtain ⟨_, _, _, _, _, _, rfl, _⟩ := h; rfl
  obtain ⟨s', t, x, y, u, v, rfl, hs, ht, hQ⟩ := h
  refine ⟨_, pss_one (ps_ret (pe_tup (pa_cons (pe_op op_add (pe_ix ix_tup (pv 0) pe_int (fun _ _ => rfl)) (pe_ix ix_tup (pv 1) pe_int (fun _ _ => rfl))) (pa_cons (pe_op op_add (pe_ix ix_tup (pv 0) pe_int (fun _ _ => rfl)) (pe_ix ix_tup (pv 1) pe_int (fun _ _ => rfl))) pa_nil)))), ?_⟩
  refine ⟨_, rfl, s', _, _, _, rfl, rfl, SqT.of hs, atI_nat (j := 0) rfl, ?_⟩
  refine ⟨_, rfl, t, _, _, _, rfl, rfl, SqT.of ht, atI_nat (j := 0) rfl, _, _, rfl, rfl, ?_⟩
  refine ⟨_, rfl, s', _, _, _, rfl, rfl, SqT.of hs, atI_nat (j := 1) rfl, ?_⟩
  refine ⟨_, rfl, t, _, _, _, rfl, rfl, SqT.of ht, atI_nat (j := 1) rfl, _, _, rfl, rfl, ?_⟩
  exact ⟨by show 2 ≤ sizeLine; decide, fun p np => hQ p _ (Ex.upd np) upd_same⟩
theorem ok_bez (F : FD K "bezout" "bezout" sBez f fd) : FnR P w K mg base C0 1 f spBez := by
  refine rawOf (okOf F scBez (fun vs H Q E h => ?_) fun cdv A outer s H vs Q E hr h => ?_) (F.bindsN fun _ _ _ _ _ _ us hl => match us, hl with | [_, _], _ => rfl)
  · obtain ⟨_, _, rfl, _⟩ := h; rfl
  obtain ⟨a, p, rfl, ha, hp, ha2, hp2, hQ⟩ := h
  refine ⟨_, pss_cons (ps_par (i := 2) (j := 3) rfl scBez.nd rfl rfl (by decide) rfl rfl (pa_cons (pe_tup (pa_cons (pv 0) (pa_cons pe_int pa_nil))) (pa_cons (pe_tup (pa_cons (pv 1) (pa_cons pe_int pa_nil))) pa_nil)) rfl)
    (pss_cons (ps_while PassesOwn.never (pt_cmpR op_gt (pe_ix ix_tup (pv 3) pe_int (fun _ _ => rfl)) pe_int (nomark _))
      (pss_cons (ps_set (i := 4) scBez.nd rfl (Or.inl rfl) (pe_op op_fdiv (pe_ix ix_tup (pv 2) pe_int (fun _ _ => rfl)) (pe_ix ix_tup (pv 3) pe_int (fun _ _ => rfl))))
      (pss_one (ps_par (i := 2) (j := 3) rfl scBez.nd rfl rfl (by decide) rfl rfl (pa_cons (pv 3) (pa_cons (pe_tup (pa_cons (pe_op op_sub (pe_ix ix_tup (pv 2) pe_int (fun _ _ => rfl)) (pe_op op_mul (pv 4) (pe_ix ix_tup (pv 3) pe_int (fun _ _ => rfl))))
        (pa_cons (pe_op op_sub (pe_ix ix_tup (pv 2) pe_int (fun _ _ => rfl)) (pe_op op_mul (pv 4) (pe_ix ix_tup (pv 3) pe_int (fun _ _ => rfl)))) pa_nil))) pa_nil)) rfl))))
    (pss_one (ps_ret (pv 2)))), ?_⟩
  refine ⟨_, rfl, by show 2 ≤ sizeLine; decide, fun t1 n1 => ⟨_, rfl, by show 2 ≤ sizeLine; decide, fun t2 n2 => ⟨_, _, rfl, ?_⟩⟩⟩
  refine while_by (fun σ H' => Ex H H' ∧ ∃ (F S : Addr) (x u y v : Int) (tm : Option V), σ = [some (.int a), some (.int p), some (.ref F), some (.ref S), tm] ∧ H' F = some (.tup [.int x, .int u]) ∧ H' S = some (.tup [.int y, .int v]) ∧
      0 < x ∧ x < 1073741824 ∧ 0 ≤ y ∧ y < 1073741824 ∧ Int.gcd x y = Int.gcd a p ∧ p ∣ a * u - x ∧ p ∣ a * v - y)
    (fun σ H' => match σ with | [_, _, _, some (.ref S), _] => (match H' S with | some (.tup [.int y, _]) => y.toNat | _ => 0) | _ => 0) ?_ ?_ ?_
  · refine ⟨(Ex.upd n1).trans (Ex.upd n2), t1, t2, a, 1, p, 0, _, rfl, ?_, upd_same, ha, ha2, by omega, hp2, rfl, ⟨0, by omega⟩, ⟨-1, by omega⟩⟩
    exact (Ex.upd n2) _ _ upd_same
  · rintro σ H' ⟨e, F, S, x, u, y, v, tm, rfl, hF, hS, hx, hx2, hy, hy2, hg, hu, hv⟩
    refine ⟨_, rfl, S, _, _, _, rfl, rfl, SqT.of hS, atI_nat (j := 0) rfl, _, _, rfl, rfl, _, rfl, ?_⟩
    refine ifD (fun h0 => ?_) fun h0 => ?_
    · refine ⟨_, rfl, F, _, _, _, rfl, rfl, SqT.of hF, atI_nat (j := 0) rfl, _, rfl, S, _, _, _, rfl, rfl, SqT.of hS, atI_nat (j := 0) rfl, _, _, rfl, rfl, ⟨h0, hy2⟩, ?_⟩
      have hq : 0 ≤ x / y := Int.ediv_nonneg (by omega) (by omega)
      have hq2 : x / y ≤ x := Int.ediv_le_self _ (by omega)
      have cm : ∀ z, CMul (x / y) z := fun z => .inl ⟨by omega, by omega⟩
      refine ⟨_, rfl, _, rfl, F, _, _, _, rfl, rfl, SqT.of hF, atI_nat (j := 0) rfl, _, rfl, _, rfl, S, _, _, _, rfl, rfl, SqT.of hS, atI_nat (j := 0) rfl, _, _, rfl, rfl, cm _, _, _, rfl, rfl, ?_⟩
      refine ⟨_, rfl, F, _, _, _, rfl, rfl, SqT.of hF, atI_nat (j := 1) rfl, _, rfl, _, rfl, S, _, _, _, rfl, rfl, SqT.of hS, atI_nat (j := 1) rfl, _, _, rfl, rfl, cm _, _, _, rfl, rfl, ?_⟩
      refine ⟨by show 2 ≤ sizeLine; decide, fun t nt => ⟨_, _, rfl, ⟨e.trans (Ex.upd nt), S, t, y, v, _, _, _, rfl, (Ex.upd nt) _ _ hS, upd_same, h0, hy2, ?_, ?_, ?_, hv, ?_⟩, ?_⟩⟩
      · have := Int.emod_nonneg x (show y ≠ 0 by omega)
        rw [Int.emod_def, Int.mul_comm] at this
        exact this
      · have := Int.emod_lt_of_pos x h0
        rw [Int.emod_def, Int.mul_comm] at this
        omega
      · rw [← hg, Int.mul_comm, ← Int.emod_def, gcd_step x y, Int.gcd_comm]
      · obtain ⟨i, hi⟩ := hu
        obtain ⟨j, hj⟩ := hv
        exact ⟨i - x / y * j, by grind⟩
      · show (match upd H' t _ t with | some (.tup [.int y, _]) => y.toNat | _ => 0) < (match H' S with | some (.tup [.int y, _]) => y.toNat | _ => 0)
        rw [upd_same, hS]
        show (x - x / y * y).toNat < y.toNat
        have h1 := Int.emod_lt_of_pos x h0
        have h2 := Int.emod_nonneg x (show y ≠ 0 by omega)
        rw [Int.emod_def, Int.mul_comm] at h1 h2
        omega
    · have e0 : y = 0 := by omega
      subst e0
      rw [Int.gcd_zero_right] at hg
      refine ⟨_, rfl, hQ F x u H' e hF ⟨hx, ?_, ?_, fun z h1 h2 => ?_, hu⟩⟩
      · have := Int.gcd_dvd_left a p
        rw [← hg] at this
        exact Int.natAbs_dvd.mp this
      · have := Int.gcd_dvd_right a p
        rw [← hg] at this
        exact Int.natAbs_dvd.mp this
      · have := Int.dvd_coe_gcd h1 h2
        rw [← hg] at this
        exact Int.dvd_natAbs.mp this
  · rintro σ H' Q1 Q2 hq ⟨v, e, p, xs, i, z, e1, e2, e3, e4, i2, j2, e5, e6, b, e7, h⟩
    exact ⟨v, e, p, xs, i, z, e1, e2, e3, e4, i2, j2, e5, e6, b, e7, hq _ _ h⟩
theorem ok_divs (F : FD K "divisors" "divisors" sDivs f fd) (B : Bl mg) : FnR P w K mg base C0 1 f spDivs := by
  refine rawOf (okOf F scDivs (fun vs H Q E h => ?_) fun cdv A outer s H vs Q E hr h => ?_) (F.bindsN fun _ _ _ _ _ _ us hl => match us, hl with | [_], _ => rfl)
  · obtain ⟨_, rfl, _⟩ := h; rfl
  obtain ⟨n, rfl, hn, hn2, hQ⟩ := h
  refine ⟨_, pss_one (ps_ret (pe_lc (own := [("divisor", 1)]) (g := gName 1) rfl scDivs.nd (pi_range2 rfl B.range (pa_cons pe_int (pa_cons (pe_op op_add (pv 0) pe_int) pa_nil))) (blkOk_by (N := ["number", "divisor"]) (sc := defScope sDivs) (by decide +kernel))
      (fun _ _ _ _ _ => pg_name (i := 1) scDivs.nd rfl (Or.inl rfl)) (fun _ _ _ _ _ => pts_one (pt_cmpR op_eq (pe_op op_mod (pv 0) (pv 1)) pe_int (nomark _))) (fun _ _ _ _ _ => pv 1))), ?_⟩
  refine ⟨_, rfl, _, _, rfl, rfl, 1, n + 1, rfl, ⟨by decide, by decide, by omega, by omega⟩, fun D hD => ?_⟩
  refine lc_by (R := fun j o _ => o = if n % (1 + (j : Int)) = 0 then some (.int (1 + (j : Int))) else none) walk_range hD (fun i v H1 hi hv p => ?_) (fun H1 p => ?_)
  · subst hv
    refine ⟨rfl, _, rfl, _, rfl, _, _, rfl, rfl, by show (0 : Int) < 1 + (i : Int); omega, rfl, _, rfl, ?_⟩
    have mono : MonR (fun (j : Nat) (o : Option V) (_ : Hp) => o = if n % (1 + (j : Int)) = 0 then some (.int (1 + (j : Int))) else none) := fun j o H H' _ r => r
    have hd : decide (V.int (n % (1 + (i : Int))) = V.int 0) = decide (n % (1 + (i : Int)) = 0) := decide_eq_decide.mpr (by simp)
    rw [hd]
    refine ifD (fun h => ⟨_, rfl, p.yes mono hD (Ex.refl _) (by rw [if_pos h]) ?_⟩) fun h => p.no mono (Ex.refl _) (by rw [if_neg h])
    show i < 2 ^ 24
    omega
  · obtain ⟨e, outs, hl, hDl, ho⟩ := p
    refine hQ D _ e ?_
    have e2 : outs = (List.range n.toNat).map fun (j : Nat) => if n % (1 + (j : Int)) = 0 then some (V.int (1 + (j : Int))) else none := by
      refine List.ext_getElem? fun j => ?_
      have hl' : outs.length = n.toNat := by rw [hl]; omega
      by_cases hj : j < outs.length
      · rw [List.getElem?_eq_getElem hj, ho j outs[j] (by simp [hj]), List.getElem?_map, List.getElem?_range (by omega)]
        rfl
      · rw [List.getElem?_eq_none (by omega), List.getElem?_eq_none (by rw [List.length_map, List.length_range]; omega)]
    rw [hDl, e2]
    unfold divs
    exact congrArg (fun z => some (HO.lst z)) (fm_divs n (List.range n.toNat))
end
end Wk
end
section
set_option maxHeartbeats 4000000
/-! turned, motions. -/
namespace Wk
open PySem PySem.Spec PyProof.Rows L2 Cl
/-- the module's table of the kinds -/
structure MatF (K : PySem.W.Frag) (w : World) (mg : Str → Option Value) (d : Addr) : Prop where
  g : mg "MATRICES" = some (.ref d)
  kd : ∃ es n, KDict K w d es n
  at_ : ∀ (k : Str) (p q r s : Int), mats.lookup k = some (p, q, r, s) → ∃ t, KDct K w d k (.ref t) ∧ PySem.W.nsIn K d k = some (some (.ref t)) ∧ ∀ H, SqT K H t [.int p, .int q, .int r, .int s]
structure BackF (K : PySem.W.Frag) (w : World) (mg : Str → Option Value) (d : Addr) : Prop where
  g : mg "BACK" = some (.ref d)
  kd : ∃ es n, KDict K w d es n
  at_ : ∀ (k : Str) (m : Mx), mats.lookup k = some m → (PySem.W.nsIn K d k = some none ∧ backK k = k) ∨ ∃ t, PySem.W.nsIn K d k = some (some (.str (backK k) t))
/-- a class of the text's own -/
structure Kl (K : PySem.W.Frag) (C : Addr) : Prop where
  cl : Cls K C
  ha : PySem.W.findIn K (.ref C) "__class__" = some (some (.builtin "object.__class__"))
  hn : PySem.W.specialIn K (.builtin "object.__class__") "__get__" = some (some (.builtin "getset_descriptor.__get__"))
  ht : PySem.W.takesIn K (.builtin "object.__class__") = some true
  hm : PySem.W.mroIn K C (.type "object") = some true
theorem Kl.ty {K : PySem.W.Frag} {C a dx : Addr} {H : Hp} {fs : List (Str × V)} (k : Kl K C) (h : H a = some (.ins C dx fs)) : TyX K H (.ref a) (.ref C) := .base (.ins h k.cl k.ha k.hn k.ht k.hm)
/-- all but o stay -/
def ExB (o : Addr) (H H' : Hp) : Prop := ∀ b u, b ≠ o → H b = some u → H' b = some u
theorem ExB.of {o : Addr} {H H' : Hp} (e : Ex H H') : ExB o H H' := fun b u _ h => e b u h
theorem ExB.trans {o : Addr} {H H1 H2 : Hp} (a : ExB o H H1) (b : ExB o H1 H2) : ExB o H H2 := fun c u n h => b c u n (a c u n h)
theorem ExB.put {o : Addr} {H : Hp} {u : HO} : ExB o H (L2.upd H o u) := fun b v n h => by rw [upd_ne n]; exact h
/-- what the making of an instance leaves -/
theorem ExB.made {x dx C : Addr} {H H' : Hp} (h1 : H x = none) (h2 : H dx = none) (ne : dx ≠ x) (e : ExB x (upd (upd H dx (.own x)) x (.ins C dx [])) H') : Ex H H' := fun b u h => by
  have n1 := ne_of_none h h1
  have n2 := ne_of_none h h2
  refine e b u n1 ?_
  rw [upd_ne n1, upd_ne n2]; exact h
def MotV (C : Addr) (H : Hp) (v : V) (k : Str) (x y : Int) : Prop := ∃ o dx t, v = .ref o ∧ H o = some (.ins C dx [("own_kind", .str k), ("own_shift", .ref t)]) ∧ H t = some (.tup [.int x, .int y])
theorem MotV.ext {C : Addr} {H H' : Hp} {v : V} {k : Str} {x y : Int} (m : MotV C H v k x y) (e : Ex H H') : MotV C H' v k x y := by
  obtain ⟨o, dx, t, h1, h2, h3⟩ := m
  exact ⟨o, dx, t, h1, e _ _ h2, e _ _ h3⟩
theorem scTurned : FnScope ["kind", "place", "p", "q", "r", "s"] ["kind", "place"] (defScope sTurned) := ⟨rfl, rfl, rfl, by decide +kernel, rfl, by decide +kernel, by decide +kernel⟩
def spTurned : Sp := fun vs H Q _ => ∃ (k : Str) (t : Addr) (p q r s x y : Int), vs = [.str k, .ref t] ∧ mats.lookup k = some (p, q, r, s) ∧ H t = some (.tup [.int x, .int y]) ∧ ∀ z H', Ex H H' → H' z = some (.tup [.int (p * x + q * y), .int (r * x + s * y)]) → Q (.ref z) H'
theorem mats_small {k : Str} {p q r s : Int} (h : mats.lookup k = some (p, q, r, s)) : (-1 ≤ p ∧ p ≤ 1) ∧ (-1 ≤ q ∧ q ≤ 1) ∧ (-1 ≤ r ∧ r ≤ 1) ∧ (-1 ≤ s ∧ s ≤ 1) := by
  have hm := PySem.mem_of_lookup h
  have all : ∀ m ∈ mats, (-1 ≤ m.2.1 ∧ m.2.1 ≤ 1) ∧ (-1 ≤ m.2.2.1 ∧ m.2.2.1 ≤ 1) ∧ (-1 ≤ m.2.2.2.1 ∧ m.2.2.2.1 ≤ 1) ∧ (-1 ≤ m.2.2.2.2 ∧ m.2.2.2.2 ≤ 1) := by decide +kernel
  exact all _ hm
section
variable {P : Program} {w : World} {K : PySem.W.Frag} {mg : Str → Option Value} {base : Heap} {f fT fP fC d dB C fN : Addr} {fd : FuncData}
theorem ok_turned (F : FD K "turned" "turned" sTurned f fd) (M : MatF K w mg d) : FnR P w K mg base C0 1 f spTurned := by
  refine rawOf (okOf F scTurned (fun vs H Q E h => ?_) fun cdv A outer s H vs Q E hr h => ?_) (F.bindsN fun _ _ _ _ _ _ us hl => match us, hl with | [_, _], _ => rfl)
  · obtain ⟨_, _, _, _, _, _, _, _, rfl, _⟩ := h; rfl
  obtain ⟨k, t, p, q, r, s', x, y, rfl, hk, ht, hQ⟩ := h
  obtain ⟨⟨p0, p1⟩, ⟨q0, q1⟩, ⟨r0, r1⟩, s0, s1⟩ := mats_small hk
  obtain ⟨z, h1, _, h2⟩ := M.at_ k p q r s' hk
  refine ⟨_, pss_cons (ps_asg (pe_ix ix_kdict (pe_glob (v := .ref d) rfl M.g rfl) (pv 0) (fun _ _ => rfl)) (pg_tup rfl (pgs_cons (pg_name (i := 2) scTurned.nd rfl (Or.inl rfl)) (pgs_cons (pg_name (i := 3) scTurned.nd rfl (Or.inl rfl)) (pgs_cons (pg_name (i := 4) scTurned.nd rfl (Or.inl rfl)) (pgs_cons (pg_name (i := 5) scTurned.nd rfl (Or.inl rfl)) pgs_nil))))))
    (pss_one (ps_ret (pe_tup (pa_cons (pe_op op_add (pe_op op_mul (pv 2) (pe_ix ix_tup (pv 1) pe_int (fun _ _ => rfl))) (pe_op op_mul (pv 3) (pe_ix ix_tup (pv 1) pe_int (fun _ _ => rfl))))
      (pa_cons (pe_op op_add (pe_op op_mul (pv 4) (pe_ix ix_tup (pv 1) pe_int (fun _ _ => rfl))) (pe_op op_mul (pv 5) (pe_ix ix_tup (pv 1) pe_int (fun _ _ => rfl)))) pa_nil))))), ?_⟩
  refine ⟨_, rfl, d, k, _, rfl, rfl, h1, z, _, rfl, h2 H, rfl, ?_⟩
  refine ⟨_, _, rfl, _, _, rfl, _, _, rfl, _, _, rfl, rfl, ?_⟩
  refine ⟨_, rfl, _, rfl, t, _, _, _, rfl, rfl, SqT.of ht, atI_nat (j := 0) rfl, _, _, rfl, rfl, .inl ⟨by omega, by omega⟩, ?_⟩
  refine ⟨_, rfl, _, rfl, t, _, _, _, rfl, rfl, SqT.of ht, atI_nat (j := 1) rfl, _, _, rfl, rfl, .inl ⟨by omega, by omega⟩, _, _, rfl, rfl, ?_⟩
  refine ⟨_, rfl, _, rfl, t, _, _, _, rfl, rfl, SqT.of ht, atI_nat (j := 0) rfl, _, _, rfl, rfl, .inl ⟨by omega, by omega⟩, ?_⟩
  refine ⟨_, rfl, _, rfl, t, _, _, _, rfl, rfl, SqT.of ht, atI_nat (j := 1) rfl, _, _, rfl, rfl, .inl ⟨by omega, by omega⟩, _, _, rfl, rfl, ?_⟩
  exact ⟨by show 2 ≤ sizeLine; decide, fun p np => hQ p _ (Ex.upd np) upd_same⟩
/-! ### Motion -/
theorem scMotInit : FnScope ["self", "kind", "shift"] ["self", "kind", "shift"] (defScope (sMot 1)) := ⟨rfl, rfl, rfl, by decide +kernel, rfl, by decide +kernel, by decide +kernel⟩
def spMotInit (C : Addr) : Sp := fun vs H Q _ => ∃ (o dx t : Addr) (k : Str) (m : Mx) (x y : Int), vs = [.ref o, .str k, .ref t] ∧ mats.lookup k = some m ∧ H o = some (.ins C dx []) ∧ H t = some (.tup [.int x, .int y]) ∧
  ∀ H', ExB o H H' → H' o = some (.ins C dx [("own_kind", .str k), ("own_shift", .ref t)]) → Q .non H'
theorem ok_motInit {dvs : List V} (F : FunD K "__init__" "Motion.__init__" (defArgs (sMot 1)) (defBody (sMot 1)) (defScope (sMot 1)) [.ref dB] [] f fd) (B : Bl mg) (M : MatF K w mg d) (FC : FnR P w K mg base C0 3 fC spChkPlace) (GC : Gb K mg "check_place" fC)
    (cl : Cls K C) (n1 : NoAttr K C "own_kind") (n2 : NoAttr K C "own_shift") : FnR P w K mg base C0 4 f (spMotInit C) := by
  obtain ⟨es, n, D⟩ := M.kd
  have G : FnOk P w K mg base C0 4 f fd ["self", "kind", "shift"] (spMotInit C) := by
    refine F.ok scMotInit (fun vs H Q E h => ?_) fun cdv A outer s H vs Q E hr h => ?_
    · obtain ⟨_, _, _, _, _, _, _, rfl, _⟩ := h; rfl
    obtain ⟨o, dx, t, k, m, x, y, rfl, hk, ho, ht, hQ⟩ := h
    obtain ⟨z, _, hin, _⟩ := M.at_ k m.1 m.2.1 m.2.2.1 m.2.2.2 hk
    refine ⟨_, PSs.nox (pss_cons (ps_if (PW.pt (pw_or (pt_not (pt_val (pe_callB call_isi rfl B.isinstance bIsi (pa_cons (pv 1) (pa_cons (pe_bltn (v := .ty "str") rfl B.str bS rfl) pa_nil))))) (pw_or1 (pt_cmpR (op_notIn_kd D) (pv 1) (pe_glob (v := .ref d) rfl M.g rfl) rfl)))) pss_never pss_nil)
      (pss_cons (ps_expr (pe_g FC GC hr rfl (pa_cons (pv 2) pa_nil)))
      (pss_cons (ps_fld (pv 0) (pv 1) rfl) (pss_one (ps_fld (pv 0) (pv 2) rfl))))), ?_⟩
    refine ⟨_, rfl, _, _, _, _, true, rfl, .ty "str", .base (.str k), kit_ty (by decide +kernel), true, rfl, ?_⟩
    refine iteF ⟨_, rfl, k, _, rfl, rfl, hin, _, rfl, iteF ?_⟩
    refine ⟨_, rfl, t, x, y, rfl, ht, fun H1 e1 => ?_⟩
    refine ⟨_, rfl, _, rfl, o, C, dx, _, rfl, e1 _ _ ho, cl, n1, by decide, ?_⟩
    refine ⟨_, rfl, _, rfl, o, C, dx, _, rfl, upd_same, cl, n2, by show 1 < 1000; decide, ?_⟩
    rw [upd_upd]
    exact hQ _ ((ExB.of e1).trans ExB.put) upd_same
  obtain ⟨ds, hv, hb⟩ := F.binds1 (ps := ["self", "kind", "shift"]) 3 1 (by simp) rfl (fun T kV doc pm an cdv ct us its h1 h2 => match us, its, h1, h2 with
    | [a, b, c], [d], _, _ => ⟨_, rfl, rfl⟩)
  have hd : ds = [] := by
    have := hv.length
    exact List.eq_nil_of_length_eq_zero this.symm
  subst hd
  exact rawOf G hb
/-! ### image, ~ -/
theorem scImage : FnScope ["self", "place"] ["self", "place"] (defScope (sMot 6)) := ⟨rfl, rfl, rfl, by decide +kernel, rfl, by decide +kernel, by decide +kernel⟩
def spImage (C : Addr) : Sp := fun vs H Q _ => ∃ (v : V) (t : Addr) (k : Str) (p q r s sx sy x y : Int), vs = [v, .ref t] ∧ MotV C H v k sx sy ∧ mats.lookup k = some (p, q, r, s) ∧ H t = some (.tup [.int x, .int y]) ∧
  ∀ z H', Ex H H' → H' z = some (.tup [.int (p * x + q * y + sx), .int (r * x + s * y + sy)]) → Q (.ref z) H'
theorem ok_image (F : FD K "image" "Motion.image" (sMot 6) f fd) (FT : FnR P w K mg base C0 1 fT spTurned) (GT : Gb K mg "turned" fT) (FP : FnR P w K mg base C0 1 fP spPlus) (GP : Gb K mg "plus" fP)
    (cl : Cls K C) (n1 : NoAttr K C "own_kind") (n2 : NoAttr K C "own_shift") : FnR P w K mg base C0 2 f (spImage C) := by
  refine rawOf (okOf F scImage (fun vs H Q E h => ?_) fun cdv A outer s H vs Q E hr h => ?_) (F.bindsN fun _ _ _ _ _ _ us hl => match us, hl with | [_, _], _ => rfl)
  · obtain ⟨_, _, _, _, _, _, _, _, _, _, _, rfl, _⟩ := h; rfl
  obtain ⟨v, t, k, p, q, r, s', sx, sy, x, y, rfl, ⟨o, dx, u, rfl, ho, hu⟩, hk, ht, hQ⟩ := h
  refine ⟨_, pss_one (ps_ret (pe_g FP GP hr rfl (pa_cons (pe_g FT GT hr rfl (pa_cons (pe_fld (pv 0) rfl) (pa_cons (pv 1) pa_nil))) (pa_cons (pe_fld (pv 0) rfl) pa_nil)))), ?_⟩
  refine ⟨_, rfl, o, C, dx, _, _, rfl, ho, cl, n1, rfl, _, rfl, ?_⟩
  refine ⟨k, t, p, q, r, s', x, y, rfl, hk, ht, fun z H1 e1 hz => ?_⟩
  refine ⟨_, rfl, o, C, dx, _, _, rfl, e1 _ _ ho, cl, n2, rfl, ?_⟩
  exact ⟨z, u, _, _, sx, sy, rfl, hz, e1 _ _ hu, fun p H' e2 hp => hQ p H' (e1.trans e2) hp⟩
theorem scInv : FnScope ["self", "kind", "x", "y"] ["self"] (defScope (sMot 9)) := ⟨rfl, rfl, rfl, by decide +kernel, rfl, by decide +kernel, by decide +kernel⟩
def spInv (C : Addr) : Sp := fun vs H Q _ => ∃ (v : V) (k : Str) (p q r s x y : Int), vs = [v] ∧ MotV C H v k x y ∧ mats.lookup (backK k) = some (p, q, r, s) ∧ (mats.lookup k).isSome = true ∧
  ∀ z H', Ex H H' → MotV C H' z (backK k) (-(p * x + q * y)) (-(r * x + s * y)) → Q z H'
theorem ok_inv (F : FD K "__invert__" "Motion.__invert__" (sMot 9) f fd) (FT : FnR P w K mg base C0 1 fT spTurned) (GT : Gb K mg "turned" fT) (BF : BackF K w mg d) (FN : FnR P w K mg base C0 4 fN (spMotInit C)) (GC : mg "Motion" = some (.ref C)) (mk : Mk K C fN)
    (cl : Cls K C) (n1 : NoAttr K C "own_kind") (n2 : NoAttr K C "own_shift") : FnR P w K mg base C0 6 f (spInv C) := by
  obtain ⟨es, n, D⟩ := BF.kd
  refine rawOf (okOf F scInv (fun vs H Q E h => ?_) fun cdv A outer s H vs Q E hr h => ?_) (F.bindsN fun _ _ _ _ _ _ us hl => match us, hl with | [_], _ => rfl)
  · obtain ⟨_, _, _, _, _, _, _, _, rfl, _⟩ := h; rfl
  obtain ⟨v, k, p, q, r, s', x, y, rfl, ⟨o, dx, u, rfl, ho, hu⟩, hk, hk0, hQ⟩ := h
  refine ⟨_, pss_cons (ps_set (i := 1) scInv.nd rfl (Or.inl rfl) (pe_kget D (pe_glob (v := .ref d) rfl BF.g rfl) (pe_fld (pv 0) rfl) (pe_fld (pv 0) rfl) ⟨rfl, rfl, rfl, rfl⟩))
    (pss_cons (ps_asg (pe_g FT GT (hr.mono (by decide)) rfl (pa_cons (pv 1) (pa_cons (pe_fld (pv 0) rfl) pa_nil))) (pg_tup rfl (pgs_cons (pg_name (i := 2) scInv.nd rfl (Or.inl rfl)) (pgs_cons (pg_name (i := 3) scInv.nd rfl (Or.inl rfl)) pgs_nil))))
    (pss_one (ps_ret (StX.pe_makeR mk FN hr rfl GC (passes0 (E := EN)) (pa_cons (pv 1) (pa_cons (pe_tup (pa_cons (pe_un un_neg (pv 2)) (pa_cons (pe_un un_neg (pv 3)) pa_nil))) pa_nil)))))), ?_⟩
  refine ⟨rfl, _, rfl, o, C, dx, _, _, rfl, ho, cl, n1, rfl, _, rfl, o, C, dx, _, _, rfl, ho, cl, n1, rfl, k, ?_⟩
  have rest : ∀ {σ : L2.St}, σ = [some (.ref o), some (.str (backK k)), none, none] → tSeq (tAsg (tF spTurned (tCons (tVar 1) (tCons (tFld K (tVar 0) "own_shift") tNil))) (gTup K 2 (gCons (gName 2) (gCons (gName 3) gNil))))
      (tRet (StX.tMakeR C (spMotInit C) EN (tCons (tVar 1) (tCons (tTup (tCons (tUn (rU fun i => .int (-i)) (tVar 2)) (tCons (tUn (rU fun i => .int (-i)) (tVar 3)) tNil))) tNil)))) { nx := fun _ H' => Q .non H', rt := Q } σ H := by
    rintro σ rfl
    refine ⟨_, rfl, _, rfl, o, C, dx, _, _, rfl, ho, cl, n2, rfl, backK k, u, p, q, r, s', x, y, rfl, hk, hu, fun z H1 e1 hz => ?_⟩
    refine ⟨z, _, rfl, SqT.of hz, rfl, _, _, rfl, _, _, rfl, rfl, ?_⟩
    refine ⟨_, rfl, _, rfl, _, rfl, _, rfl, _, rfl, by show 2 ≤ sizeLine; decide, fun t nt => ?_⟩
    intro a da na nd ne
    have mm := mats_small hk
    obtain ⟨m, hm⟩ := Option.isSome_iff_exists.mp (show (mats.lookup (backK k)).isSome = true by rw [hk]; rfl)
    refine ⟨a, da, t, backK k, m, -(p * x + q * y), -(r * x + s' * y), rfl, hm, upd_same, ?_, fun H' e2 ha => ⟨rfl, ?_⟩⟩
    · have h1 : t ≠ a := ne_of_none upd_same na
      have h2 : t ≠ da := ne_of_none upd_same nd
      rw [upd_ne h1, upd_ne h2, upd_same]
    · have e3 := ExB.made na nd ne e2
      refine hQ _ H' ((e1.trans (Ex.upd nt)).trans e3) ⟨a, da, t, rfl, ha, e3 _ _ upd_same⟩
  rcases BF.at_ k ((mats.lookup k).get hk0) (by simp) with ⟨h1, h2⟩ | ⟨t0, h1⟩
  · exact ⟨_, rfl, h1, rest (by rw [h2]; rfl)⟩
  · exact ⟨_, rfl, h1, .str (backK k), ⟨t0, rfl⟩, rest rfl⟩
end
end Wk
end
section
set_option maxHeartbeats 4000000
/-! form_of, are_numbers, common_numbers. -/
namespace Wk
open PySem PySem.Spec PyProof.Rows L2 Cl
theorem fmod_lt (c : Int) {y : Int} (h : y ≠ 0) : (c - c.fdiv y * y).natAbs < y.natAbs ∧ (c.fdiv y).natAbs ≤ c.natAbs + y.natAbs := by
  have e := Int.fdiv_mul_add_fmod c y
  have key : (c.fmod y).natAbs < y.natAbs := by
    rcases Int.lt_or_le 0 y with z | z
    · have := Int.fmod_nonneg_of_pos c z
      have := Int.fmod_lt_of_pos c z
      omega
    · have h1 := Int.fmod_nonneg_of_pos (-c) (show 0 < -y by omega)
      have h2 := Int.fmod_lt_of_pos (-c) (show 0 < -y by omega)
      rw [Int.neg_fmod_neg] at h1 h2
      omega
  refine ⟨by omega, ?_⟩
  have h1 : (c.fdiv y * y).natAbs ≤ c.natAbs + y.natAbs := by omega
  rw [Int.natAbs_mul] at h1
  have h2 : (c.fdiv y).natAbs * 1 ≤ (c.fdiv y).natAbs * y.natAbs := Nat.mul_le_mul_left _ (by omega)
  omega
theorem scForm : FnScope ["shifts", "a", "b", "c", "x", "y", "times"] ["shifts"] (defScope sForm) := ⟨rfl, rfl, rfl, by decide +kernel, rfl, by decide +kernel, by decide +kernel⟩
def spForm : Sp := fun vs H Q _ => ∃ (p t1 t2 : Addr) (x1 y1 x2 y2 : Int), vs = [.ref p] ∧ H p = some (.tup [.ref t1, .ref t2]) ∧ H t1 = some (.tup [.int x1, .int y1]) ∧ H t2 = some (.tup [.int x2, .int y2]) ∧ x1 * y2 - x2 * y1 ≠ 0 ∧ y1.natAbs ≤ 3000000 ∧ y2.natAbs ≤ 3000000 ∧
  ∀ t a b c H', Ex H H' → H' t = some (.tup [.int a, .int b, .int c]) → Mn.Ok a b c → (∀ u v, Mn.In a b c u v ↔ ∃ i j : Int, u = i * x1 + j * x2 ∧ v = i * y1 + j * y2) → Q (.ref t) H'
section
variable {P : Program} {w : World} {K : PySem.W.Frag} {mg : Str → Option Value} {base : Heap} {f fG fI fB : Addr} {fd : FuncData}
theorem ok_form (F : FD K "form_of" "form_of" sForm f fd) (FG : FnR P w K mg base C0 1 fG spGcd) (GG : Gb K mg "greatest_divisor" fG) : FnR P w K mg base C0 2 f spForm := by
  refine rawOf (okOf F scForm (fun vs H Q E h => ?_) fun cdv A outer s H vs Q E hr h => ?_) (F.bindsN fun _ _ _ _ _ _ us hl => match us, hl with | [_], _ => rfl)
  · obtain ⟨_, _, _, _, _, _, _, rfl, _⟩ := h; rfl
  obtain ⟨p, t1, t2, x1, y1, x2, y2, rfl, hp, h1, h2, hdet, hy1, hy2, hQ⟩ := h
  refine ⟨_, pss_cons (ps_asg (pe_tup (pa_cons pe_int (pa_cons pe_int (pa_cons pe_int pa_nil)))) (pg_tup rfl (pgs_cons (pg_name (i := 1) scForm.nd rfl (Or.inl rfl)) (pgs_cons (pg_name (i := 2) scForm.nd rfl (Or.inl rfl)) (pgs_cons (pg_name (i := 3) scForm.nd rfl (Or.inl rfl)) pgs_nil)))))
    (pss_cons (ps_for PassesOwn.never rfl (pi_tup (pv 0)) (pg_tup rfl (pgs_cons (pg_name (i := 4) scForm.nd rfl (Or.inl rfl)) (pgs_cons (pg_name (i := 5) scForm.nd rfl (Or.inl rfl)) pgs_nil)))
      (pss_cons (ps_while PassesOwn.never (pt_cmpR op_ne (pv 5) pe_int (nomark _))
        (pss_cons (ps_set (i := 6) scForm.nd rfl (Or.inl rfl) (pe_op op_fdivN (pv 3) (pv 5)))
        (pss_one (ps_asg (pe_tup (pa_cons (pv 4) (pa_cons (pv 5) (pa_cons (pe_op op_sub (pv 2) (pe_op op_mul (pv 6) (pv 4))) (pa_cons (pe_op op_sub (pv 3) (pe_op op_mul (pv 6) (pv 5))) pa_nil)))))
          (pg_tup rfl (pgs_cons (pg_name (i := 2) scForm.nd rfl (Or.inl rfl)) (pgs_cons (pg_name (i := 3) scForm.nd rfl (Or.inl rfl)) (pgs_cons (pg_name (i := 4) scForm.nd rfl (Or.inl rfl)) (pgs_cons (pg_name (i := 5) scForm.nd rfl (Or.inl rfl)) pgs_nil)))))))))
      (pss_one (ps_set (i := 1) scForm.nd rfl (Or.inl rfl) (pe_g FG GG hr rfl (pa_cons (pv 1) (pa_cons (pv 4) pa_nil)))))))
    (pss_cons (ps_if (PW.pt (pw_or (pt_cmpR op_eq (pv 1) pe_int (nomark _)) (pw_or1 (pt_cmpR op_eq (pv 3) pe_int (nomark _))))) pss_never pss_nil)
    (pss_one (ps_ret (pe_ifExp (pt_cmpR op_gt (pv 3) pe_int (nomark _)) (pe_tup (pa_cons (pv 1) (pa_cons (pe_op op_mod (pv 2) (pv 1)) (pa_cons (pv 3) pa_nil))))
      (pe_tup (pa_cons (pv 1) (pa_cons (pe_op op_mod (pe_un un_neg (pv 2)) (pv 1)) (pa_cons (pe_un un_neg (pv 3)) pa_nil)))))))))
    , ?_⟩
  refine ⟨by show 3 ≤ sizeLine; decide, fun q nq => ⟨q, _, rfl, SqT.of upd_same, rfl, _, _, rfl, _, _, rfl, _, _, rfl, rfl, ?_⟩⟩
  refine ⟨_, rfl, p, rfl, ⟨_, SqT.of (Ex.upd nq _ _ hp)⟩, ?_⟩
  have e0 : Ex H (upd H q (.tup [.int 0, .int 0, .int 0])) := Ex.upd nq
  refine for_by (walk_tup (SqT.of (e0 _ _ hp))) (fun i σ H' => Ex H H' ∧ Ex (upd H q (.tup [.int 0, .int 0, .int 0])) H' ∧ ∃ (a b c : Int) (X Y T : Option V), σ = [some (.ref p), some (.int a), some (.int b), some (.int c), X, Y, T] ∧ 0 ≤ a ∧ c.natAbs ≤ 3000000 ∧
      ∀ u v, Mn.In a b c u v ↔ ∃ j1 j2 : Int, (i < 1 → j1 = 0) ∧ (i < 2 → j2 = 0) ∧ u = j1 * x1 + j2 * x2 ∧ v = j1 * y1 + j2 * y2) ?_ (fun i σ H' _ h => h.2.1) ?_ ?_
  · refine ⟨e0, Ex.refl _, 0, 0, 0, _, _, _, rfl, by omega, by omega, fun u v => ⟨fun ⟨k, m, e1, e2⟩ => ⟨0, 0, fun _ => rfl, fun _ => rfl, by omega, by omega⟩, fun ⟨j1, j2, h1, h2, e1, e2⟩ => ?_⟩⟩
    have := h1 (by omega); have := h2 (by omega)
    subst j1 j2
    exact ⟨0, 0, by omega, by omega⟩
  · rintro i z σ H' hi hz ⟨e, e', a, b, c, X, Y, T, rfl, ha, hc, hL⟩
    have hi : i < 2 := hi
    obtain ⟨t, x, y, rfl, ht, hyb, hL2⟩ : ∃ (t : Addr) (x y : Int), z = .ref t ∧ H t = some (.tup [.int x, .int y]) ∧ y.natAbs ≤ 3000000 ∧ ∀ u v, Mn.Span3 a b c x y u v ↔ ∃ j1 j2 : Int, (i + 1 < 1 → j1 = 0) ∧ (i + 1 < 2 → j2 = 0) ∧ u = j1 * x1 + j2 * x2 ∧ v = j1 * y1 + j2 * y2 := by
      match i, hi with
      | 0, _ =>
        refine ⟨t1, x1, y1, by simpa using hz.symm, h1, hy1, fun u v => ⟨fun ⟨k, m, n, e1, e2⟩ => ?_, fun ⟨j1, j2, q1, q2, e1, e2⟩ => ?_⟩⟩
        · obtain ⟨j1, j2, q1, q2, r1, r2⟩ := (hL (k * b + m * a) (k * c)).mp ⟨k, m, rfl, rfl⟩
          have := q1 (by omega); have := q2 (by omega)
          subst j1 j2
          exact ⟨n, 0, by omega, fun _ => rfl, by omega, by omega⟩
        · have := q2 (by omega)
          subst j2
          obtain ⟨k, m, r1, r2⟩ := (hL 0 0).mpr ⟨0, 0, fun _ => rfl, fun _ => rfl, by omega, by omega⟩
          exact ⟨k, m, j1, by omega, by omega⟩
      | 1, _ =>
        refine ⟨t2, x2, y2, by simpa using hz.symm, h2, hy2, fun u v => ⟨fun ⟨k, m, n, e1, e2⟩ => ?_, fun ⟨j1, j2, q1, q2, e1, e2⟩ => ?_⟩⟩
        · obtain ⟨j1, j2, q1, q2, r1, r2⟩ := (hL (k * b + m * a) (k * c)).mp ⟨k, m, rfl, rfl⟩
          have := q2 (by omega)
          subst j2
          exact ⟨j1, n, by omega, by omega, by omega, by omega⟩
        · obtain ⟨k, m, r1, r2⟩ := (hL (j1 * x1) (j1 * y1)).mpr ⟨j1, 0, by omega, fun _ => rfl, by omega, by omega⟩
          exact ⟨k, m, j2, by omega, by omega⟩
    refine ⟨t, _, rfl, SqT.of (e _ _ ht), rfl, _, _, rfl, _, _, rfl, rfl, ?_⟩
    refine while_by (fun σ H' => Ex H H' ∧ Ex (upd H q (.tup [.int 0, .int 0, .int 0])) H' ∧ ∃ (b c x y : Int) (T : Option V), σ = [some (.ref p), some (.int a), some (.int b), some (.int c), some (.int x), some (.int y), T] ∧ c.natAbs ≤ 3000000 ∧ y.natAbs ≤ 3000000 ∧
        ∀ u v, Mn.Span3 a b c x y u v ↔ ∃ j1 j2 : Int, (i + 1 < 1 → j1 = 0) ∧ (i + 1 < 2 → j2 = 0) ∧ u = j1 * x1 + j2 * x2 ∧ v = j1 * y1 + j2 * y2)
      (fun σ _ => match σ with | [_, _, _, _, _, some (.int y), _] => y.natAbs | _ => 0) ⟨e, e', b, c, x, y, _, rfl, hc, hyb, hL2⟩ ?_ ?_
    · rintro σ H' ⟨e, e', b, c, x, y, T, rfl, hc, hyb, hL2⟩
      refine ⟨_, rfl, rfl, _, rfl, ?_⟩
      have hd : decide (V.int y = V.int 0) = decide (y = 0) := decide_eq_decide.mpr (by simp)
      by_cases h0 : y = 0
      · subst h0
        refine iteF ?_
        refine ⟨_, rfl, _, rfl, a, x, rfl, e, e', _, b, c, _, _, _, rfl, by omega, hc, fun u v => ?_⟩
        rw [← Mn.span_end]
        exact hL2 u v
      · rw [hd, decide_eq_false h0]
        refine iteT ?_
        obtain ⟨l1, l2⟩ := fmod_lt c h0
        have cm : ∀ z, CMul (c.fdiv y) z := fun z => .inl ⟨by omega, by omega⟩
        refine ⟨_, rfl, _, rfl, _, _, rfl, rfl, ⟨h0, by omega⟩, ?_⟩
        refine ⟨_, rfl, _, rfl, _, rfl, _, rfl, _, rfl, _, _, rfl, rfl, cm _, _, _, rfl, rfl, _, rfl, _, rfl, _, rfl, _, _, rfl, rfl, cm _, _, _, rfl, rfl, by show 4 ≤ sizeLine; decide, fun r nr => ?_⟩
        refine ⟨r, _, rfl, SqT.of upd_same, rfl, _, _, rfl, _, _, rfl, _, _, rfl, _, _, rfl, rfl, ⟨e.trans (Ex.upd nr), e'.trans (Ex.upd nr), x, y, _, _, _, rfl, hyb, by omega, fun u v => ?_⟩, ?_⟩
        · rw [Mn.span_step]
          exact hL2 u v
        · exact l1
    · rintro σ H' Q1 Q2 hq ⟨v, e, e1, b, e2, h⟩
      exact ⟨v, e, e1, b, e2, hq _ _ h⟩
  · rintro σ H' ⟨e, e', a, b, c, X, Y, T, rfl, ha, hc, hL⟩
    have hL : ∀ u v, Mn.In a b c u v ↔ ∃ i j : Int, u = i * x1 + j * x2 ∧ v = i * y1 + j * y2 := fun u v => by
      rw [hL u v]
      exact ⟨fun ⟨j1, j2, _, _, q⟩ => ⟨j1, j2, q⟩, fun ⟨j1, j2, q⟩ => ⟨j1, j2, fun h => absurd h (by simp), fun h => absurd h (by simp), q⟩⟩
    have hac : a * c ≠ 0 := fun z => by
      obtain ⟨d, hd⟩ := Mn.in_det ((hL x1 y1).mpr ⟨1, 0, by omega, by omega⟩) ((hL x2 y2).mpr ⟨0, 1, by omega, by omega⟩)
      rw [z, Int.zero_mul] at hd
      exact hdet hd
    have ha0 : a ≠ 0 := fun z => hac (by rw [z, Int.zero_mul])
    have hc0 : c ≠ 0 := fun z => hac (by rw [z, Int.mul_zero])
    refine ⟨_, rfl, rfl, _, rfl, ?_⟩
    have hd1 : decide (V.int a = V.int 0) = false := decide_eq_false (by simpa using ha0)
    rw [hd1]
    refine iteF ⟨_, rfl, rfl, _, rfl, ?_⟩
    have hd2 : decide (V.int c = V.int 0) = false := decide_eq_false (by simpa using hc0)
    rw [hd2]
    refine iteF ⟨_, rfl, _, _, rfl, rfl, _, rfl, ?_⟩
    have b0 := Int.emod_nonneg b ha0
    have b1 := Int.emod_lt_of_pos b (show 0 < a by omega)
    have d0 := Int.emod_nonneg (-b) ha0
    have d1 := Int.emod_lt_of_pos (-b) (show 0 < a by omega)
    refine ifD (fun h0 => ?_) fun h0 => ?_
    · refine ⟨_, rfl, _, rfl, _, rfl, _, _, rfl, rfl, by show 0 < a; omega, _, rfl, by show 3 ≤ sizeLine; decide, fun r nr => ?_⟩
      refine hQ r a (b % a) c _ (e.trans (Ex.upd nr)) upd_same ⟨b0, b1, by omega⟩ fun u v => ?_
      rw [Mn.in_mod]
      exact hL u v
    · refine ⟨_, rfl, _, rfl, _, rfl, _, rfl, _, _, rfl, rfl, by show 0 < a; omega, _, rfl, _, rfl, by show 3 ≤ sizeLine; decide, fun r nr => ?_⟩
      refine hQ r a (-b % a) (-c) _ (e.trans (Ex.upd nr)) upd_same ⟨d0, d1, by omega⟩ fun u v => ?_
      rw [Mn.in_mod, Mn.in_flip]
      exact hL u v
end
end Wk
end
section
set_option maxHeartbeats 4000000
/-! are_numbers, common_numbers. -/
namespace Wk
open PySem PySem.Spec PyProof.Rows L2 Cl
theorem scAre : FnScope ["numbers", "a", "b", "c", "number"] ["numbers"] (defScope sAre) := ⟨rfl, rfl, rfl, by decide +kernel, rfl, by decide +kernel, by decide +kernel⟩
def spAre : Sp := fun vs H Q _ => ∃ (t : Addr) (a b c : Int), vs = [.ref t] ∧ H t = some (.tup [.int a, .int b, .int c]) ∧ Mn.Ok a b c ∧ ∀ H', Ex H H' → Q (.bl true) H'
theorem lcm_up {c r : Int} (hc : 0 < c) (hr : 0 < r) : c ∣ c * r / (Int.gcd c r : Nat) ∧ r ∣ c * r / (Int.gcd c r : Nat) ∧ (∀ e, c ∣ e → r ∣ e → c * r / (Int.gcd c r : Nat) ∣ e) ∧ 0 < c * r / (Int.gcd c r : Nat) ∧ c * r / (Int.gcd c r : Nat) ≤ c * r := by
  have hg : (0 : Int) < (Int.gcd c r : Nat) := by
    have := Int.gcd_pos_of_ne_zero_left r (show c ≠ 0 by omega)
    omega
  have e : c * r / (Int.gcd c r : Nat) = (Int.lcm c r : Nat) := by
    have h := Int.gcd_mul_lcm c r
    refine Int.ediv_eq_of_eq_mul_right (by omega) ?_
    have h2 : ((Int.gcd c r * Int.lcm c r : Nat) : Int) = ((c.natAbs * r.natAbs : Nat) : Int) := congrArg _ h
    rw [Int.natCast_mul, Int.natCast_mul, Int.natAbs_of_nonneg (by omega), Int.natAbs_of_nonneg (by omega)] at h2
    exact h2.symm
  have pos : 0 < c * r := Int.mul_pos hc hr
  have hd : (Int.gcd c r : Nat) * (c * r / (Int.gcd c r : Nat)) = c * r := Int.mul_ediv_cancel' (Int.dvd_trans (Int.gcd_dvd_left c r) ⟨r, rfl⟩)
  have up0 : 0 < c * r / (Int.gcd c r : Nat) := by
    rcases Int.lt_or_le 0 (c * r / (Int.gcd c r : Nat)) with z | z
    · exact z
    · have := Int.mul_nonpos_of_nonneg_of_nonpos (show (0 : Int) ≤ (Int.gcd c r : Nat) by omega) z
      omega
  refine ⟨?_, ?_, fun z h1 h2 => ?_, up0, Int.ediv_le_self _ (by omega)⟩
  · rw [e]; exact Int.dvd_lcm_left c r
  · rw [e]; exact Int.dvd_lcm_right c r
  · rw [e]; exact Int.coe_lcm_dvd h1 h2
theorem le_mul_pos {a x : Int} (ha : 0 ≤ a) (hx : 1 ≤ x) : a ≤ a * x := by
  have := Int.mul_le_mul_of_nonneg_left hx ha
  omega
theorem ediv_abs {z d X : Int} (hd : 0 < d) (h0 : 0 ≤ X) (h1 : -X ≤ z) (h2 : z ≤ X) : -X ≤ z / d ∧ z / d ≤ X := by
  refine ⟨?_, ?_⟩
  · refine Int.le_ediv_of_mul_le hd ?_
    have := le_mul_pos h0 (show 1 ≤ d by omega)
    rw [Int.neg_mul]
    omega
  · rcases Int.le_total 0 z with h | h
    · have := Int.ediv_le_self d h
      omega
    · have := Int.ediv_nonpos_of_nonpos_of_neg h hd
      omega
theorem scCom : FnScope ["one", "other", "a", "b", "c", "p", "q", "r", "up", "first", "second", "divisor", "factor", "rows", "right", "width"] ["one", "other"] (defScope sCom) := ⟨rfl, rfl, rfl, by decide +kernel, rfl, by decide +kernel, by decide +kernel⟩
def spCom : Sp := fun vs H Q _ => ∃ (s t : Addr) (a b c p q r : Int), vs = [.ref s, .ref t] ∧ H s = some (.tup [.int a, .int b, .int c]) ∧ H t = some (.tup [.int p, .int q, .int r]) ∧ Mn.Ok a b c ∧ Mn.Ok p q r ∧ (a * c) * (p * r) ≤ 1000000 ∧
  ∀ z a' b' c' H', Ex H H' → H' z = some (.tup [.int a', .int b', .int c']) → Mn.Ok a' b' c' → (∀ u v, Mn.In a' b' c' u v ↔ Mn.In a b c u v ∧ Mn.In p q r u v) → a' * c' ≤ (a * c) * (p * r) → Q (.ref z) H'
section
variable {P : Program} {w : World} {K : PySem.W.Frag} {mg : Str → Option Value} {base : Heap} {f fG fI fB : Addr} {fd : FuncData}
theorem ok_are (F : FD K "are_numbers" "are_numbers" sAre f fd) (B : Bl mg) (FI : FnR P w K mg base C0 1 fI spIsInt) (GI : Gb K mg "is_integer" fI) : FnR P w K mg base C0 2 f spAre := by
  refine rawOf (okOf F scAre (fun vs H Q E h => ?_) fun cdv A outer s H vs Q E hr h => ?_) (F.bindsN fun _ _ _ _ _ _ us hl => match us, hl with | [_], _ => rfl)
  · obtain ⟨_, _, _, _, rfl, _⟩ := h; rfl
  obtain ⟨t, a, b, c, rfl, ht, ok, hQ⟩ := h
  refine ⟨_, pss_cons (ps_if (pt_not (pt_val (pe_callB (cr_all rfl) rfl B.all bAll (pa_cons (pe_lc (own := [("number", 4)]) (g := gName 4) (tt := tYes) rfl scAre.nd (pi_tup (pv 0)) (blkOk_by (N := ["numbers", "a", "b", "c", "number"]) (sc := defScope sAre) (by decide +kernel))
      (fun _ _ _ _ _ => pg_name (i := 4) scAre.nd rfl (Or.inl rfl)) (fun _ _ _ _ _ => pts_nil) (fun _ _ _ _ _ => pe_g FI GI hr rfl (pa_cons (pv 4) pa_nil))) pa_nil)))) pss_never pss_nil)
    (pss_cons (ps_asg (pv 0) (pg_tup rfl (pgs_cons (pg_name (i := 1) scAre.nd rfl (Or.inl rfl)) (pgs_cons (pg_name (i := 2) scAre.nd rfl (Or.inl rfl)) (pgs_cons (pg_name (i := 3) scAre.nd rfl (Or.inl rfl)) pgs_nil)))))
    (pss_one (ps_ret (pe_and (pe_cmpR op_ge (pv 3) pe_int (nomark _)) (pe_one (pe_chain op_le op_lt pe_int (pv 2) (pv 1)))))))
    , ?_⟩
  refine ⟨_, rfl, t, rfl, ⟨_, SqT.of ht⟩, fun D hD => ?_⟩
  refine lc_by (R := fun j o _ => j < 3 ∧ o = some (.bl true)) (walk_tup (SqT.of ht)) hD (fun i v H1 hi hv p => ?_) (fun H1 p => ?_)
  · refine ⟨rfl, ?_⟩
    have hint : ∃ n : Int, v = .int n := by
      match i, hi with
      | 0, _ => exact ⟨a, by simpa using hv.symm⟩
      | 1, _ => exact ⟨b, by simpa using hv.symm⟩
      | 2, _ => exact ⟨c, by simpa using hv.symm⟩
    obtain ⟨n, rfl⟩ := hint
    refine ⟨_, rfl, n, rfl, ?_⟩
    exact p.yes (fun j o H H' _ r => r) hD (Ex.refl _) ⟨hi, rfl⟩ (by have : i < 3 := hi; exact Nat.lt_of_lt_of_le this (by decide))
  · obtain ⟨e, outs, hl, hDl, ho⟩ := p
    have e2 : outs.filterMap id = [true, true, true].map V.bl := outs_some (ys := [true, true, true].map V.bl) hl fun j o q => by
      obtain ⟨h1, h2⟩ := ho j o q
      match j, h1 with
      | 0, _ => exact ⟨_, rfl, h2⟩
      | 1, _ => exact ⟨_, rfl, h2⟩
      | 2, _ => exact ⟨_, rfl, h2⟩
    rw [e2] at hDl
    refine ⟨D, [true, true, true], rfl, SqL.of hDl, true, rfl, iteF ?_⟩
    refine ⟨_, rfl, t, _, rfl, SqT.of (e _ _ ht), rfl, _, _, rfl, _, _, rfl, _, _, rfl, rfl, ?_⟩
    refine ⟨_, rfl, _, _, rfl, rfl, _, rfl, ?_⟩
    have := ok.c1
    have := ok.b0
    have := ok.ba
    rw [decide_eq_true (show c ≥ 1 by omega)]
    refine iteT ?_
    refine ⟨_, rfl, _, _, rfl, rfl, _, rfl, ?_⟩
    rw [decide_eq_true (show 0 ≤ b by omega)]
    refine iteT ?_
    refine ⟨_, rfl, _, _, rfl, rfl, ?_⟩
    show Q (.bl (decide (b < a))) H1
    rw [decide_eq_true (show b < a by omega)]
    exact hQ _ e
end
end Wk
end
section
set_option maxHeartbeats 4000000
/-! common_numbers. -/
namespace Wk
open PySem PySem.Spec PyProof.Rows L2 Cl
section
variable {P : Program} {w : World} {K : PySem.W.Frag} {mg : Str → Option Value} {base : Heap} {f fG fI fB : Addr} {fd : FuncData}
/-- the sizes -/
structure ComB (a b c p q r : Int) : Prop where
  a1 : 1 ≤ a
  c1 : 1 ≤ c
  p1 : 1 ≤ p
  r1 : 1 ≤ r
  am : a ≤ 1000000
  cm : c ≤ 1000000
  pm : p ≤ 1000000
  rm : r ≤ 1000000
  cr : c * r ≤ 1000000
theorem comB {a b c p q r : Int} (h : Mn.Ok a b c) (g : Mn.Ok p q r) (hz : (a * c) * (p * r) ≤ 1000000) : ComB a b c p q r := by
  have a1 := h.a
  have c1 := h.c
  have p1 := g.a
  have r1 := g.c
  have ac : 0 < a * c := Int.mul_pos a1 c1
  have pr : 0 < p * r := Int.mul_pos p1 r1
  have cr : 0 < c * r := Int.mul_pos c1 r1
  have ap : 0 < a * p := Int.mul_pos a1 p1
  have l1 := le_mul_pos (a := a * c) (x := p * r) (by omega) (by omega)
  have l2 := le_mul_pos (a := p * r) (x := a * c) (by omega) (by omega)
  have l3 := le_mul_pos (a := c * r) (x := a * p) (by omega) (by omega)
  have l4 := le_mul_pos (a := a) (x := c) (by omega) (by omega)
  have l5 := le_mul_pos (a := c) (x := a) (by omega) (by omega)
  have l6 := le_mul_pos (a := p) (x := r) (by omega) (by omega)
  have l7 := le_mul_pos (a := r) (x := p) (by omega) (by omega)
  rw [Int.mul_comm (p * r)] at l2
  rw [show c * r * (a * p) = a * c * (p * r) by grind] at l3
  rw [Int.mul_comm c a] at l5
  rw [Int.mul_comm r p] at l7
  exact ⟨by omega, by omega, by omega, by omega, by omega, by omega, by omega, by omega, by omega⟩
theorem mul_bd {x y n m : Int} (h1 : 0 ≤ x) (h2 : x ≤ n) (h3 : 0 ≤ y) (h4 : y ≤ m) : 0 ≤ x * y ∧ x * y ≤ n * m := ⟨Int.mul_nonneg h1 h3, Int.mul_le_mul h2 h4 h3 (by omega)⟩
theorem com_bound {b q c r up f1 s1 rows d : Int} (c1 : 1 ≤ c) (r1 : 1 ≤ r) (u0 : 0 < up) (u4 : up ≤ 1000000) (b0 : 0 ≤ b) (b1 : b ≤ 1000000) (q0 : 0 ≤ q) (q1 : q ≤ 1000000) (r0 : 0 ≤ rows) (r2 : rows ≤ 1000000) (d0 : 0 < d) (hf : b * (up / c) = f1) (hs : q * (up / r) = s1) :
    -(2 ^ 64) < (rows * s1 - rows * f1) / d ∧ (rows * s1 - rows * f1) / d < 2 ^ 64 := by
  have a1 : 0 ≤ up / c := Int.ediv_nonneg (by omega) (by omega)
  have a2 : up / c ≤ 1000000 := by have := Int.ediv_le_self c (show 0 ≤ up by omega); omega
  have a3 : 0 ≤ up / r := Int.ediv_nonneg (by omega) (by omega)
  have a4 : up / r ≤ 1000000 := by have := Int.ediv_le_self r (show 0 ≤ up by omega); omega
  have f1b := mul_bd b0 b1 a1 a2
  have s1b := mul_bd q0 q1 a3 a4
  rw [hf] at f1b
  rw [hs] at s1b
  have rf := mul_bd r0 r2 f1b.1 f1b.2
  have rs := mul_bd r0 r2 s1b.1 s1b.2
  have e : (1000000 : Int) * (1000000 * 1000000) = 1000000000000000000 := by decide +kernel
  rw [e] at rf rs
  have db := ediv_abs (z := rows * s1 - rows * f1) (X := 1000000000000000000) d0 (by omega) (by omega) (by omega)
  omega
theorem ok_com (F : FD K "common_numbers" "common_numbers" sCom f fd) (FG : FnR P w K mg base C0 1 fG spGcd) (GG : Gb K mg "greatest_divisor" fG) (FB : FnR P w K mg base C0 1 fB spBez) (GB : Gb K mg "bezout" fB) : FnR P w K mg base C0 2 f spCom := by
  refine rawOf (okOf F scCom (fun vs H Q E h => ?_) fun cdv A outer s H vs Q E hr h => ?_) (F.bindsN fun _ _ _ _ _ _ us hl => match us, hl with | [_, _], _ => rfl)
  · obtain ⟨_, _, _, _, _, _, _, _, rfl, _⟩ := h; rfl
  obtain ⟨s', t, a, b, c, p, q, r, rfl, hs, ht, ok1, ok2, hz, hQ⟩ := h
  have Z := comB ok1 ok2 hz
  obtain ⟨a1, c1, p1, r1, am, cm, pm, rm, cr⟩ := Z
  refine ⟨_, pss_cons (ps_asg (pv 0) (pg_tup rfl (pgs_cons (pg_name (i := 2) scCom.nd rfl (Or.inl rfl)) (pgs_cons (pg_name (i := 3) scCom.nd rfl (Or.inl rfl)) (pgs_cons (pg_name (i := 4) scCom.nd rfl (Or.inl rfl)) pgs_nil)))))
    (pss_cons (ps_asg (pv 1) (pg_tup rfl (pgs_cons (pg_name (i := 5) scCom.nd rfl (Or.inl rfl)) (pgs_cons (pg_name (i := 6) scCom.nd rfl (Or.inl rfl)) (pgs_cons (pg_name (i := 7) scCom.nd rfl (Or.inl rfl)) pgs_nil)))))
    (pss_cons (ps_set (i := 8) scCom.nd rfl (Or.inl rfl) (pe_op op_fdiv (pe_op op_mul (pv 4) (pv 7)) (pe_g FG GG hr rfl (pa_cons (pv 4) (pa_cons (pv 7) pa_nil)))))
    (pss_cons (ps_par (i := 9) (j := 10) rfl scCom.nd rfl rfl (by decide) rfl rfl (pa_cons (pe_op op_mul (pv 3) (pe_op op_fdiv (pv 8) (pv 4))) (pa_cons (pe_op op_mul (pv 6) (pe_op op_fdiv (pv 8) (pv 7))) pa_nil)) rfl)
    (pss_cons (ps_asg (pe_g FB GB hr rfl (pa_cons (pv 2) (pa_cons (pv 5) pa_nil))) (pg_tup rfl (pgs_cons (pg_name (i := 11) scCom.nd rfl (Or.inl rfl)) (pgs_cons (pg_name (i := 12) scCom.nd rfl (Or.inl rfl)) pgs_nil))))
    (pss_cons (ps_set (i := 13) scCom.nd rfl (Or.inl rfl) (pe_op op_fdiv (pv 11) (pe_g FG GG hr rfl (pa_cons (pv 11) (pa_cons (pe_op op_sub (pv 9) (pv 10)) pa_nil)))))
    (pss_cons (ps_par (i := 9) (j := 10) rfl scCom.nd rfl rfl (by decide) rfl rfl (pa_cons (pe_op op_mul (pv 13) (pv 9)) (pa_cons (pe_op op_mul (pv 13) (pv 10)) pa_nil)) rfl)
    (pss_cons (ps_set (i := 14) scCom.nd rfl (Or.inl rfl) (pe_op op_add (pv 9) (pe_op op_mul (pv 2) (pe_op op_mul (pe_op op_fdiv (pe_op op_sub (pv 10) (pv 9)) (pv 11)) (pv 12)))))
    (pss_cons (ps_set (i := 15) scCom.nd rfl (Or.inl rfl) (pe_op op_fdiv (pe_op op_mul (pv 2) (pv 5)) (pv 11)))
    (pss_one (ps_ret (pe_tup (pa_cons (pv 15) (pa_cons (pe_op op_mod (pv 14) (pv 15)) (pa_cons (pe_op op_mul (pv 13) (pv 8)) pa_nil))))))))))))))
    , ?_⟩
  show tSeq _ _ _ [some (.ref s'), some (.ref t), none, none, none, none, none, none, none, none, none, none, none, none, none, none] H
  refine ⟨_, rfl, s', _, rfl, SqT.of hs, rfl, _, _, rfl, _, _, rfl, _, _, rfl, rfl, ?_⟩
  refine ⟨_, rfl, t, _, rfl, SqT.of ht, rfl, _, _, rfl, _, _, rfl, _, _, rfl, rfl, ?_⟩
  simp only [gName, List.set_cons_succ, List.set_cons_zero]
  obtain ⟨u1, u2, u3, u0, u4⟩ := lcm_up (c := c) (r := r) (by omega) (by omega)
  have hg0 : (0 : Int) < (Int.gcd c r : Nat) := by
    have := Int.gcd_pos_of_ne_zero_left r (show c ≠ 0 by omega)
    omega
  have hg1 : ((Int.gcd c r : Nat) : Int) ≤ c := Int.gcd_le_left r (by omega)
  have sm : ∀ {x y : Int}, -2000000 ≤ x → x ≤ 2000000 → CMul x y := fun h1 h2 => .inl ⟨by omega, by omega⟩
  refine ⟨_, rfl, _, rfl, _, _, rfl, rfl, sm (by omega) (by omega), _, rfl, _, rfl, _, _, rfl, ?_⟩
  refine ⟨_, _, rfl, rfl, ⟨hg0, by omega⟩, ?_⟩
  simp only [gName, List.set_cons_succ, List.set_cons_zero]
  generalize hup : c * r / (Int.gcd c r : Nat) = up at u1 u2 u3 u0 u4 ⊢
  have b0 := ok1.b0
  have b1 := ok1.ba
  have q0 := ok2.b0
  have q1 := ok2.ba
  refine ⟨_, rfl, _, rfl, _, rfl, _, _, rfl, rfl, ⟨by omega, by omega⟩, _, _, rfl, rfl, sm (by omega) (by omega), _, rfl, _, rfl, _, rfl, _, _, rfl, rfl, ⟨by omega, by omega⟩, _, _, rfl, rfl, sm (by omega) (by omega), _, _, rfl, ?_⟩
  simp only [gName, List.set_cons_succ, List.set_cons_zero]
  refine ⟨_, rfl, _, rfl, a, p, rfl, by omega, by omega, by omega, by omega, fun z d u H1 e1 hzz B => ?_⟩
  have d0 := B.d0
  have da : d ≤ a := Int.le_of_dvd (by omega) B.da
  refine ⟨z, _, rfl, SqT.of hzz, rfl, _, _, rfl, _, _, rfl, rfl, ?_⟩
  simp only [gName, List.set_cons_succ, List.set_cons_zero]
  generalize hf : b * (up / c) = f1
  generalize hs2 : q * (up / r) = s1
  have hG0 : (0 : Int) < (Int.gcd d (f1 - s1) : Nat) := by
    have := Int.gcd_pos_of_ne_zero_left (f1 - s1) (show d ≠ 0 by omega)
    omega
  have hG1 : ((Int.gcd d (f1 - s1) : Nat) : Int) ≤ d := Int.gcd_le_left _ d0
  refine ⟨_, rfl, _, rfl, _, rfl, _, rfl, _, _, rfl, rfl, _, _, rfl, ?_⟩
  refine ⟨_, _, rfl, rfl, ⟨hG0, by omega⟩, ?_⟩
  obtain ⟨C1, C2, C3, C4, C5, C6⟩ := Mn.common_in (right := d / (Int.gcd d (f1 - s1) : Nat) * f1 + a * ((d / (Int.gcd d (f1 - s1) : Nat) * s1 - d / (Int.gcd d (f1 - s1) : Nat) * f1) / d * u)) (width := a * p / d) ok1 ok2 u1 u2 u3 u0 B (by rw [hf, hs2]) (by rw [hf, hs2]) rfl
  simp only [gName, List.set_cons_succ, List.set_cons_zero]
  generalize hrows : d / (Int.gcd d (f1 - s1) : Nat) = rows at C1 C2 C3 C4 C5 ⊢
  refine ⟨_, rfl, _, rfl, _, _, rfl, rfl, sm (by omega) (by omega), _, rfl, _, rfl, _, _, rfl, rfl, sm (by omega) (by omega), _, _, rfl, ?_⟩
  simp only [gName, List.set_cons_succ, List.set_cons_zero]
  obtain ⟨db1, db2⟩ := com_bound (rows := rows) (d := d) c1 r1 u0 (by omega) b0 (by omega) q0 (by omega) (by omega) (by omega) d0 hf hs2
  refine ⟨_, rfl, _, rfl, _, rfl, _, rfl, _, _, rfl, rfl, _, rfl, _, _, rfl, rfl, ⟨d0, by omega⟩, _, rfl, _, _, rfl, rfl, .inl ⟨db1, db2⟩, _, _, rfl, rfl, sm (by omega) (by omega), _, _, rfl, rfl, ?_⟩
  simp only [gName, List.set_cons_succ, List.set_cons_zero]
  refine ⟨_, rfl, _, rfl, _, _, rfl, rfl, sm (by omega) (by omega), _, rfl, _, _, rfl, rfl, ⟨d0, by omega⟩, ?_⟩
  simp only [gName, List.set_cons_succ, List.set_cons_zero]
  have w0 := C1.a
  refine ⟨_, rfl, _, rfl, _, rfl, _, _, rfl, rfl, w0, _, rfl, _, rfl, _, _, rfl, rfl, sm (by omega) (by omega), by show 3 ≤ sizeLine; decide, fun o no => ?_⟩
  refine hQ o _ _ _ _ (e1.trans (Ex.upd no)) upd_same C1 C2 ?_
  have l1 : a * p * up ≤ a * p * (c * r) := Int.mul_le_mul_of_nonneg_left u4 (Int.mul_nonneg (by omega) (by omega))
  have l2 : a * p * (c * r) = a * c * (p * r) := by grind
  omega
end
end Wk
end
section
set_option maxHeartbeats 4000000
/-! Net. -/
namespace Wk
open PySem PySem.Spec PyProof.Rows L2 Cl
/-- a net by its numbers -/
def NetV (C : Addr) (H : Hp) (v : V) (a b c : Int) : Prop := ∃ n dx q, v = .ref n ∧ H n = some (.ins C dx [("own_numbers", .ref q)]) ∧ H q = some (.tup [.int a, .int b, .int c]) ∧ Mn.Ok a b c ∧ a * c ≤ 1000000
theorem NetV.ext {C : Addr} {H H' : Hp} {v : V} {a b c : Int} (m : NetV C H v a b c) (e : ExtL H H') : NetV C H' v a b c := by
  obtain ⟨n, dx, q, h1, h2, h3, h4⟩ := m
  exact ⟨n, dx, q, h1, e _ _ h2 (fun _ z => by cases z), e _ _ h3 (fun _ z => by cases z), h4⟩
theorem NetV.ok {C : Addr} {H : Hp} {v : V} {a b c : Int} (m : NetV C H v a b c) : Mn.Ok a b c ∧ a ≤ 1000000 ∧ c ≤ 1000000 ∧ a * c ≤ 1000000 := by
  obtain ⟨n, dx, q, h1, h2, h3, h4, h5⟩ := m
  have h6 := h4.a
  have h7 := h4.c
  have l1 := le_mul_pos (a := a) (x := c) (by omega) (by omega)
  have l2 := le_mul_pos (a := c) (x := a) (by omega) (by omega)
  rw [Int.mul_comm c a] at l2
  exact ⟨h4, by omega, by omega, h5⟩
/-- the class Net -/
structure NetF (K : PySem.W.Frag) (mg : Str → Option Value) (C : Addr) : Prop where
  kl : Kl K C
  g : mg "Net" = some (.ref C)
  na : NoAttr K C "own_numbers"
  kp : PySem.W.keepIn K (.ref C) = true
theorem scNetInit : FnScope ["self", "a", "b", "c"] ["self", "a", "b", "c"] (defScope (sNet 0)) := ⟨rfl, rfl, rfl, by decide +kernel, rfl, by decide +kernel, by decide +kernel⟩
def spNetInit (C : Addr) : Sp := fun vs H Q _ => ∃ (n dx : Addr) (a b c : Int), vs = [.ref n, .int a, .int b, .int c] ∧ H n = some (.ins C dx []) ∧ Mn.Ok a b c ∧ a * c ≤ 1000000 ∧ ∀ H', ExB n H H' → NetV C H' (.ref n) a b c → Q .non H'
section
variable {P : Program} {w : World} {K : PySem.W.Frag} {mg : Str → Option Value} {base : Heap} {f fA fN fI fB C : Addr} {fd : FuncData}
theorem ok_netInit (F : FD K "__init__" "Net.__init__" (sNet 0) f fd) (T : NetF K mg C) (FA : FnR P w K mg base C0 2 fA spAre) (GA : Gb K mg "are_numbers" fA) : FnR P w K mg base C0 3 f (spNetInit C) := by
  refine rawOf (okOf F scNetInit (fun vs H Q E h => ?_) fun cdv A outer s H vs Q E hr h => ?_) (F.bindsN fun _ _ _ _ _ _ us hl => match us, hl with | [_, _, _, _], _ => rfl)
  · obtain ⟨_, _, _, _, _, rfl, _⟩ := h; rfl
  obtain ⟨n, dx, a, b, c, rfl, hn, ok, hz, hQ⟩ := h
  refine ⟨_, pss_cons (ps_if (pt_not (pt_val (pe_g FA GA hr rfl (pa_cons (pe_tup (pa_cons (pv 1) (pa_cons (pv 2) (pa_cons (pv 3) pa_nil)))) pa_nil)))) pss_never pss_nil)
    (pss_one (ps_fld (pv 0) (pe_tup (pa_cons (pv 1) (pa_cons (pv 2) (pa_cons (pv 3) pa_nil)))) rfl)), ?_⟩
  refine ⟨_, rfl, _, rfl, _, rfl, by show 3 ≤ sizeLine; decide, fun t nt => ?_⟩
  refine ⟨t, a, b, c, rfl, upd_same, ok, fun H1 e1 => ⟨true, rfl, iteF ?_⟩⟩
  have e2 := (Ex.upd nt).trans e1
  refine ⟨_, rfl, _, rfl, _, rfl, by show 3 ≤ sizeLine; decide, fun q nq => ?_⟩
  have e3 : Ex H1 (upd H1 q (.tup [.int a, .int b, .int c])) := Ex.upd nq
  have hn1 := e2 _ _ hn
  have hn2 := e3 _ _ hn1
  have ne : q ≠ n := Ne.symm (ne_of_none hn1 nq)
  refine ⟨_, rfl, n, C, dx, _, rfl, hn2, T.kl.cl, T.na, by decide, ?_⟩
  refine hQ _ ((ExB.of (e2.trans e3)).trans ExB.put) ⟨n, dx, q, rfl, upd_same, ?_, ok, hz⟩
  rw [upd_ne ne, upd_same]
/-- Net(a, b, c): the making -/
theorem net_made {n dx : Addr} {H H' : Hp} (h1 : H n = none) (h2 : H dx = none) (ne : dx ≠ n) (e : ExB n (upd (upd H dx (.own n)) n (.ins C dx [])) H') : Ex H H' := ExB.made h1 h2 ne e
/-! numbers, size -/
theorem scNetNumbers : FnScope ["self"] ["self"] (defScope (sNet 3)) := ⟨rfl, rfl, rfl, by decide +kernel, rfl, by decide +kernel, by decide +kernel⟩
def spNetNumbers (C : Addr) : Sp := fun vs H Q _ => ∃ (v : V) (a b c : Int), vs = [v] ∧ NetV C H v a b c ∧ ∀ q, H q = some (.tup [.int a, .int b, .int c]) → Q (.ref q) H
theorem ok_netNumbers (F : FD K "numbers" "Net.numbers" (sNet 3) f fd) (T : NetF K mg C) : FnOk P w K mg base C0 1 f fd ["self"] (spNetNumbers C) := by
  refine okOf F scNetNumbers (fun vs H Q E h => ?_) fun cdv A outer s H vs Q E hr h => ?_
  · obtain ⟨_, _, _, _, rfl, _⟩ := h; rfl
  obtain ⟨v, a, b, c, rfl, ⟨n, dx, q, rfl, hn, hq, _⟩, hQ⟩ := h
  exact ⟨_, pss_one (ps_ret (pe_fld (pv 0) rfl)), _, rfl, n, C, dx, _, _, rfl, hn, T.kl.cl, T.na, rfl, hQ q hq⟩
theorem scNetSize : FnScope ["self"] ["self"] (defScope (sNet 4)) := ⟨rfl, rfl, rfl, by decide +kernel, rfl, by decide +kernel, by decide +kernel⟩
def spNetSize (C : Addr) : Sp := fun vs H Q _ => ∃ (v : V) (a b c : Int), vs = [v] ∧ NetV C H v a b c ∧ Q (.int (a * c)) H
theorem ok_netSize (F : FD K "size" "Net.size" (sNet 4) f fd) (T : NetF K mg C) : FnOk P w K mg base C0 1 f fd ["self"] (spNetSize C) := by
  refine okOf F scNetSize (fun vs H Q E h => ?_) fun cdv A outer s H vs Q E hr h => ?_
  · obtain ⟨_, _, _, _, rfl, _⟩ := h; rfl
  obtain ⟨v, a, b, c, rfl, N, hQ⟩ := h
  obtain ⟨ok, l1, l2, _⟩ := N.ok
  have := ok.a
  obtain ⟨n, dx, q, rfl, hn, hq, _⟩ := N
  refine ⟨_, pss_one (ps_ret (pe_op op_mul (pe_ix ix_tup (pe_fld (pv 0) rfl) pe_int (fun _ _ => rfl)) (pe_ix ix_tup (pe_fld (pv 0) rfl) pe_int (fun _ _ => rfl)))), ?_⟩
  refine ⟨_, rfl, n, C, dx, _, _, rfl, hn, T.kl.cl, T.na, rfl, q, _, _, _, rfl, rfl, SqT.of hq, atI_nat (j := 0) rfl, ?_⟩
  exact ⟨_, rfl, n, C, dx, _, _, rfl, hn, T.kl.cl, T.na, rfl, q, _, _, _, rfl, rfl, SqT.of hq, atI_nat (j := 2) rfl, _, _, rfl, rfl, .inl ⟨by omega, by omega⟩, hQ⟩
/-! place_in_cell -/
theorem scNetPic : FnScope ["self", "place", "a", "b", "c", "rows"] ["self", "place"] (defScope (sNet 6)) := ⟨rfl, rfl, rfl, by decide +kernel, rfl, by decide +kernel, by decide +kernel⟩
def spNetPic (C : Addr) : Sp := fun vs H Q _ => ∃ (v : V) (t : Addr) (a b c x y : Int), vs = [v, .ref t] ∧ NetV C H v a b c ∧ H t = some (.tup [.int x, .int y]) ∧ ∀ z H', Ex H H' → H' z = some (.tup [.int (Mn.lowx a b c x y), .int (Mn.lowy c y)]) → Q (.ref z) H'
theorem ok_netPic (F : FD K "place_in_cell" "Net.place_in_cell" (sNet 6) f fd) (T : NetF K mg C) : FnR P w K mg base C0 1 f (spNetPic C) := by
  refine rawOf (okOf F scNetPic (fun vs H Q E h => ?_) fun cdv A outer s H vs Q E hr h => ?_) (F.bindsN fun _ _ _ _ _ _ us hl => match us, hl with | [_, _], _ => rfl)
  · obtain ⟨_, _, _, _, _, _, _, rfl, _⟩ := h; rfl
  obtain ⟨v, t, a, b, c, x, y, rfl, N, ht, hQ⟩ := h
  obtain ⟨ok, l1, l2, _⟩ := N.ok
  have a0 := ok.a
  have c0 := ok.c
  have b0 := ok.b0
  have b1 := ok.ba
  obtain ⟨n, dx, q, rfl, hn, hq, _⟩ := N
  refine ⟨_, pss_cons (ps_asg (pe_fld (pv 0) rfl) (pg_tup rfl (pgs_cons (pg_name (i := 2) scNetPic.nd rfl (Or.inl rfl)) (pgs_cons (pg_name (i := 3) scNetPic.nd rfl (Or.inl rfl)) (pgs_cons (pg_name (i := 4) scNetPic.nd rfl (Or.inl rfl)) pgs_nil)))))
    (pss_cons (ps_set (i := 5) scNetPic.nd rfl (Or.inl rfl) (pe_op op_fdiv (pe_ix ix_tup (pv 1) pe_int (fun _ _ => rfl)) (pv 4)))
    (pss_one (ps_ret (pe_tup (pa_cons (pe_op op_mod (pe_op op_sub (pe_ix ix_tup (pv 1) pe_int (fun _ _ => rfl)) (pe_op op_mul (pv 5) (pv 3))) (pv 2))
      (pa_cons (pe_op op_sub (pe_ix ix_tup (pv 1) pe_int (fun _ _ => rfl)) (pe_op op_mul (pv 5) (pv 4))) pa_nil)))))), ?_⟩
  refine ⟨_, rfl, n, C, dx, _, _, rfl, hn, T.kl.cl, T.na, rfl, q, _, rfl, SqT.of hq, rfl, _, _, rfl, _, _, rfl, _, _, rfl, rfl, ?_⟩
  refine ⟨_, rfl, t, _, _, _, rfl, rfl, SqT.of ht, atI_nat (j := 1) rfl, _, rfl, _, _, rfl, rfl, ⟨c0, by omega⟩, ?_⟩
  refine ⟨_, rfl, t, _, _, _, rfl, rfl, SqT.of ht, atI_nat (j := 0) rfl, _, rfl, _, rfl, _, _, rfl, rfl, .inr ⟨by omega, by omega⟩, _, _, rfl, rfl, _, rfl, _, _, rfl, rfl, a0, ?_⟩
  refine ⟨_, rfl, t, _, _, _, rfl, rfl, SqT.of ht, atI_nat (j := 1) rfl, _, rfl, _, rfl, _, _, rfl, rfl, .inr ⟨by omega, by omega⟩, _, _, rfl, rfl, by show 2 ≤ sizeLine; decide, fun z nz => ?_⟩
  exact hQ z _ (Ex.upd nz) upd_same
end
end Wk
end
section
set_option maxHeartbeats 4000000
/-! Net, further: whole, of, and, mul, eq, spots. -/
namespace Wk
open PySem PySem.Spec PyProof.Rows L2 Cl
/-- the inner loop of a comprehension with two for -/
theorem lc2_in {J1 : It} {H1 H4 : Hp} {n1 i0 : Nat} {item1 : Nat → V → Prop} {g1 : TG} {tt1 : TT} {te : TE} {vs1 : List Nat} {σ2 : L2.St} {D : Addr} {Nx : Hp → Prop} {R : RT} (wk : Walk J1 H1 n1 item1) (p : LcP H1 D R i0 H4)
    (hs : ∀ j x H, j < n1 → item1 j x → LcP H1 D R (i0 + j) H → g1 x (wipe σ2 vs1) H fun σ3 H5 => wipe σ3 vs1 = wipe σ2 vs1 ∧ tt1 σ3 H5 fun b H6 =>
      if b = true then te σ3 H6 fun y H7 => ∃ acc, H7 D = some (.lst acc) ∧ acc.length < sizeLine ∧ LcP H1 D R (i0 + j + 1) (upd H7 D (.lst (acc ++ [y]))) else LcP H1 D R (i0 + j + 1) H6) (hd : ∀ H, LcP H1 D R (i0 + n1) H → Nx H) :
    ∃ W1 : Nat → Nat → Hp → Prop, (∃ m, W1 0 m H4) ∧ ∀ j k H, W1 j k H →
      (J1.stop j H ∧ Nx H) ∨ (J1.go j H ∧ ∃ Nx1 : Hp → Prop, (∀ H', Nx1 H' → ∃ k', k' < k ∧ W1 (j + 1) k' H') ∧ ∀ x H', J1.yld j H x H' → g1 x (wipe σ2 vs1) H' fun σ3 H5 => wipe σ3 vs1 = wipe σ2 vs1 ∧ tt1 σ3 H5 fun b H6 =>
        if b = true then te σ3 H6 fun y H7 => ∃ acc, H7 D = some (.lst acc) ∧ acc.length < sizeLine ∧ Nx1 (upd H7 D (.lst (acc ++ [y]))) else Nx1 H6) := by
  refine ⟨fun j m H => m = n1 - j ∧ j ≤ n1 ∧ LcP H1 D R (i0 + j) H, ⟨n1, by simp, Nat.zero_le _, p⟩, ?_⟩
  rintro j m H ⟨rfl, hj, p⟩
  by_cases hlt : j < n1
  · refine .inr ⟨wk.go j H p.1 hlt, LcP H1 D R (i0 + j + 1), fun H' p' => ⟨n1 - (j + 1), by omega, rfl, hlt, p'⟩, fun x H' y => ?_⟩
    obtain ⟨e, q⟩ := wk.yld j H x H' p.1 hlt y
    subst e
    exact hs j x _ hlt q p
  · have e : j = n1 := by omega
    subst e
    exact .inl ⟨wk.stop H p.1, hd H p⟩
/-- the outer one: k items a turn -/
theorem lc2_out {J : It} {H1 : Hp} {n k : Nat} {item : Nat → V → Prop} {body : Nat → V → Hp → (Hp → Prop) → Prop} {D : Addr} {Qd : Hp → Prop} {R : RT} (wk : Walk J H1 n item) (hn : H1 D = none)
    (hs : ∀ i x H, i < n → item i x → LcP H1 D R (i * k) H → body i x H (LcP H1 D R ((i + 1) * k))) (hd : ∀ H, LcP H1 D R (n * k) H → Qd H) :
    ∃ W : Nat → Nat → Hp → Prop, (∃ m, W 0 m (upd H1 D (.lst []))) ∧ ∀ i m H, W i m H →
      (J.stop i H ∧ Qd H) ∨ (J.go i H ∧ ∃ Nx : Hp → Prop, (∀ H', Nx H' → ∃ m', m' < m ∧ W (i + 1) m' H') ∧ ∀ x H', J.yld i H x H' → body i x H' Nx) := by
  refine ⟨fun i m H => m = n - i ∧ i ≤ n ∧ LcP H1 D R (i * k) H, ⟨n, by simp, Nat.zero_le _, by rw [Nat.zero_mul]; exact LcP.start hn⟩, ?_⟩
  rintro i m H ⟨rfl, hi, p⟩
  by_cases hlt : i < n
  · refine .inr ⟨wk.go i H p.1 hlt, LcP H1 D R ((i + 1) * k), fun H' p' => ⟨n - (i + 1), by omega, rfl, hlt, p'⟩, fun x H' y => ?_⟩
    obtain ⟨e, q⟩ := wk.yld i H x H' p.1 hlt y
    subst e
    exact hs i x _ hlt q p
  · have e : i = n := by omega
    subst e
    exact .inl ⟨wk.stop H p.1, hd H p⟩
theorem fm_some {α β : Type} (f : α → β) : ∀ l : List α, (l.map fun t => some (f t)).filterMap id = l.map f
  | [] => rfl
  | a :: l => by rw [List.map_cons, List.map_cons, ← fm_some f l]; rfl
/-- the places of a cell, in their order: tuples at ts -/
def Spots (a c : Int) (ts : List Addr) (H : Hp) : Prop := ts.length = (a * c).toNat ∧ ∀ (i : Nat) (t : Addr), ts[i]? = some t → H t = some (.tup [.int ((i : Int) % a), .int ((i : Int) / a)])
theorem Spots.ext {a c : Int} {ts : List Addr} {H H' : Hp} (s : Spots a c ts H) (e : ExtL H H') : Spots a c ts H' := ⟨s.1, fun i t h => e _ _ (s.2 i t h) fun _ z => by cases z⟩
theorem scNetSpots : FnScope ["self", "a", "b", "c", "y", "x"] ["self"] (defScope (sNet 15)) := ⟨rfl, rfl, rfl, by decide +kernel, rfl, by decide +kernel, by decide +kernel⟩
def spSpots (C : Addr) : Sp := fun vs H Q _ => ∃ (v : V) (a b c : Int), vs = [v] ∧ NetV C H v a b c ∧ ∀ D ts H', Ex H H' → H' D = some (.lst (ts.map V.ref)) → Spots a c ts H' → Q (.ref D) H'
section
variable {P : Program} {w : World} {K : PySem.W.Frag} {mg : Str → Option Value} {base : Heap} {f fA fN fI fB C : Addr} {fd : FuncData}
theorem ok_spots (F : FD K "spots" "Net.spots" (sNet 15) f fd) (B : Bl mg) (T : NetF K mg C) : FnR P w K mg base C0 1 f (spSpots C) := by
  refine rawOf (okOf F scNetSpots (fun vs H Q E h => ?_) fun cdv A outer s H vs Q E hr h => ?_) (F.bindsN fun _ _ _ _ _ _ us hl => match us, hl with | [_], _ => rfl)
  · obtain ⟨_, _, _, _, rfl, _⟩ := h; rfl
  obtain ⟨v, a, b, c, rfl, N, hQ⟩ := h
  obtain ⟨ok, l1, l2, l3⟩ := N.ok
  have a0 := ok.a
  have c0 := ok.c
  obtain ⟨n, dx, q, rfl, hn, hq, _⟩ := N
  refine ⟨_, pss_cons (ps_asg (pe_fld (pv 0) rfl) (pg_tup rfl (pgs_cons (pg_name (i := 1) scNetSpots.nd rfl (Or.inr rfl)) (pgs_cons (pg_name (i := 2) scNetSpots.nd rfl (Or.inl rfl)) (pgs_cons (pg_name (i := 3) scNetSpots.nd rfl (Or.inl rfl)) pgs_nil)))))
    (pss_one (ps_ret (pe_lc2 (own := [("y", 4), ("x", 5)]) (vs1 := [5]) (g := gName 4) (g1 := gName 5) (tt := tYes) (tt1 := tYes) rfl scNetSpots.nd (pi_range1 rfl B.range (pa_cons (pv 3) pa_nil)) (blkOk_by (N := ["self", "a", "b", "c", "y", "x"]) (sc := defScope (sNet 15)) (by decide +kernel)) (by simp)
      (fun _ _ _ _ _ => pg_name (i := 4) scNetSpots.nd rfl (Or.inl rfl)) (fun _ _ _ _ _ => pts_nil) (fun _ _ _ _ _ => pi_range1 rfl B.range (pa_cons (pv 1) pa_nil)) (fun _ _ _ _ _ => pg_name (i := 5) scNetSpots.nd rfl (Or.inl rfl)) (fun _ _ _ _ _ => pts_nil)
      (fun _ _ _ _ _ => pe_tup (pa_cons (pv 5) (pa_cons (pv 4) pa_nil)))))), ?_⟩
  refine ⟨_, rfl, n, C, dx, _, _, rfl, hn, T.kl.cl, T.na, rfl, q, _, rfl, SqT.of hq, rfl, _, _, rfl, _, _, rfl, _, _, rfl, rfl, ?_⟩
  refine ⟨_, rfl, c, rfl, by omega, by omega, fun D hD => ?_⟩
  have hmono : MonR (fun (j : Nat) (o : Option V) (H : Hp) => ∃ t, o = some (.ref t) ∧ H t = some (.tup [.int ((j : Int) % a), .int ((j : Int) / a)])) := fun j o H H' e ⟨t, h1, h2⟩ => ⟨t, h1, e _ _ h2 fun _ z => by cases z⟩
  have hlen : c.toNat * a.toNat = (a * c).toNat := by
    obtain ⟨a', rfl⟩ := Int.eq_ofNat_of_zero_le (show 0 ≤ a by omega)
    obtain ⟨c', rfl⟩ := Int.eq_ofNat_of_zero_le (show 0 ≤ c by omega)
    rw [← Int.natCast_mul, Int.toNat_natCast, Int.toNat_natCast, Int.toNat_natCast, Nat.mul_comm]
  refine lc2_out (k := a.toNat) (R := fun j o H => ∃ t, o = some (.ref t) ∧ H t = some (.tup [.int ((j : Int) % a), .int ((j : Int) / a)])) walk_range hD (fun i x H1 hi hx p => ?_) (fun H1 p => ?_)
  · subst hx
    refine ⟨rfl, ?_⟩
    refine ⟨_, rfl, a, rfl, by omega, by omega, ?_⟩
    refine lc2_in (i0 := i * a.toNat) walk_range p (fun j x H2 hj hx p2 => ?_) (fun H2 p2 => by rw [Nat.succ_mul]; exact p2)
    subst hx
    refine ⟨rfl, ?_⟩
    refine ⟨_, rfl, _, rfl, by show 2 ≤ sizeLine; decide, fun t nt => ?_⟩
    have e1 : ((i * a.toNat + j : Nat) : Int) % a = 0 + (j : Int) := by
      have : ((i * a.toNat + j : Nat) : Int) = j + (i : Int) * a := by
        rw [Int.natCast_add, Int.natCast_mul, Int.toNat_of_nonneg (by omega)]; omega
      rw [this, Int.add_mul_emod_self_right, Int.emod_eq_of_lt (by omega) (by omega)]; omega
    have e2 : ((i * a.toNat + j : Nat) : Int) / a = 0 + (i : Int) := by
      have : ((i * a.toNat + j : Nat) : Int) = j + (i : Int) * a := by
        rw [Int.natCast_add, Int.natCast_mul, Int.toNat_of_nonneg (by omega)]; omega
      rw [this, Int.add_mul_ediv_right _ _ (by omega), Int.ediv_eq_zero_of_lt (by omega) (by omega)]
    refine p2.yes hmono hD (Ex.upd nt) ⟨t, rfl, ?_⟩ ?_
    · rw [upd_same, e1, e2]
    · have h1 : i * a.toNat + j < c.toNat * a.toNat := by
        have : (i + 1) * a.toNat ≤ c.toNat * a.toNat := Nat.mul_le_mul_right _ (by omega)
        rw [Nat.succ_mul] at this
        omega
      rw [hlen] at h1
      show _ < 2 ^ 24
      omega
  · obtain ⟨e, outs, hl, hDl, ho⟩ := p
    have hts : ∃ ts : List Addr, outs = ts.map (fun t => some (V.ref t)) ∧ ∀ (i : Nat) (t : Addr), ts[i]? = some t → H1 t = some (.tup [.int ((i : Int) % a), .int ((i : Int) / a)]) := by
      refine ⟨outs.map fun o => match o with | some (.ref t) => t | _ => 0, ?_, fun i t ht => ?_⟩
      · refine List.ext_getElem? fun j => ?_
        rw [List.getElem?_map, List.getElem?_map]
        cases hj : outs[j]? with
        | none => rfl
        | some o =>
          obtain ⟨t, h1, _⟩ := ho j o hj
          subst h1
          rfl
      · rw [List.getElem?_map] at ht
        cases hj : outs[i]? with
        | none => rw [hj] at ht; cases ht
        | some o =>
          obtain ⟨t', h1, h2⟩ := ho i o hj
          subst h1
          rw [hj] at ht
          have : t' = t := Option.some.inj ht
          rw [← this]; exact h2
    obtain ⟨ts, h1, h2⟩ := hts
    refine hQ D ts H1 e ?_ ⟨?_, h2⟩
    · rw [hDl, h1, fm_some]
    · rw [← hlen, ← List.length_map (f := fun t => some (V.ref t)), ← h1, hl]
end
end Wk
end
section
set_option maxHeartbeats 4000000
/-! Net: whole, of, and, mul, eq. -/
namespace Wk
open PySem PySem.Spec PyProof.Rows L2 Cl
section
variable {X : Cx} {k : Nat} {f C : Addr} {sp : Sp} {x : Str} {i : Nat} {e : Expr} {es : List Expr} {t : TA} {p pos : Pos}
/-- x(e, ..), x a local that holds the class at C -/
theorem pe_mkV (M : Mk X.K C f) (F : FnR X.prog X.w X.K X.mg X.base C0 k f sp) (hr : Room (k + 1) X.A) (hN : X.N[i]? = some x) (hv : Vis X.env.scope x) (ha : PA X (e :: es) t)
    (hdb : (x == ("__debug__" : Str)) = false := by decide) (hcd : (x == ("__classdict__" : Str)) = false := by decide) (he : starEach (e :: es) X.env = (false, eval e X.env) :: starEach es X.env := by rfl) (hpl : (backTo pos (starEach es X.env)).any (·.1) = false := by rfl) :
    PE X (.Call (.Name x p) (e :: es) [] pos) (fun σ H Q => σ[i]? = some (some (.ref C)) ∧ StX.tMakeR C sp EN t σ H Q) := by
  refine ⟨fun pins s σ H Q I h => ?_⟩
  obtain ⟨hs, h⟩ := h
  refine wpAny_Call_Name_kw (thn ((pe_var (pos := p) (i := i) hN hv hdb hcd).run pins s σ H (fun v H1 => v = .ref C ∧ H1 = H) I ⟨.ref C, hs, rfl, rfl⟩) fun u s1 ⟨v, H1, I1, r1, ev, eH⟩ => ?_)
  subst ev
  rw [eH] at I1
  cases r1
  exact PySem.W.callWith_K (h₀ := X.base) I.ok.mod.kin M.kp (thn (ha.run pos pins s1 σ H _ I1 h) fun us s2 ⟨vs, H2, I2, r, q⟩ => ⟨I2.kIn, StX.run_makeR M F hr passes0 I2 r q⟩) he hpl
end
/-- an instance's making: what its caller is left with -/
theorem made_ext {x dx C : Addr} {H H' : Hp} (h1 : H x = none) (h2 : H dx = none) (e : ExB x (upd (upd H dx (.own x)) x (.ins C dx [])) H') : Ex H H' := fun b u h => by
  have n1 := ne_of_none h h1
  have n2 := ne_of_none h h2
  refine e b u n1 ?_
  rw [upd_ne n1, upd_ne n2]; exact h
theorem scNetWhole : FnScope ["cls"] ["cls"] (defScope (sNet 2)) := ⟨rfl, rfl, rfl, by decide +kernel, rfl, by decide +kernel, by decide +kernel⟩
def spWhole (C : Addr) : Sp := fun vs H Q _ => vs = [.ref C] ∧ ∀ z H', Ex H H' → NetV C H' z 1 0 1 → Q z H'
theorem scNetAnd : FnScope ["self", "other", "numbers"] ["self", "other"] (defScope (sNet 8)) := ⟨rfl, rfl, rfl, by decide +kernel, rfl, by decide +kernel, by decide +kernel⟩
def spAnd (C : Addr) : Sp := fun vs H Q _ => ∃ (v u : V) (a b c p q r : Int), vs = [v, u] ∧ NetV C H v a b c ∧ NetV C H u p q r ∧ (a * c) * (p * r) ≤ 1000000 ∧
  ∀ z a' b' c' H', Ex H H' → NetV C H' z a' b' c' → (∀ x y, Mn.In a' b' c' x y ↔ Mn.In a b c x y ∧ Mn.In p q r x y) → a' * c' ≤ (a * c) * (p * r) → Q z H'
theorem scNetEq : FnScope ["self", "other"] ["self", "other"] (defScope (sNet 11)) := ⟨rfl, rfl, rfl, by decide +kernel, rfl, by decide +kernel, by decide +kernel⟩
def spNetEq (C : Addr) : Sp := fun vs H Q _ => ∃ (v u : V) (a b c p q r : Int), vs = [v, u] ∧ NetV C H v a b c ∧ NetV C H u p q r ∧ Q (.bl (decide (a = p ∧ b = q ∧ c = r))) H
section
variable {P : Program} {w : World} {K : PySem.W.Frag} {mg : Str → Option Value} {base : Heap} {f fA fN fI fB fC C : Addr} {fd : FuncData}
theorem ok_whole (F : FD K "whole" "Net.whole" (sNet 2) f fd) (T : NetF K mg C) (FN : FnR P w K mg base C0 3 fN (spNetInit C)) (mk : Mk K C fN) : FnR P w K mg base C0 5 f (spWhole C) := by
  refine rawOf (okOf F scNetWhole (fun vs H Q E h => ?_) fun cdv A outer s H vs Q E hr h => ?_) (F.bindsN fun _ _ _ _ _ _ us hl => match us, hl with | [_], _ => rfl)
  · obtain ⟨rfl, _⟩ := h; rfl
  obtain ⟨rfl, hQ⟩ := h
  refine ⟨_, pss_one (ps_ret (pe_mkV (i := 0) mk FN hr rfl (.inl rfl) (pa_cons pe_int (pa_cons pe_int (pa_cons pe_int pa_nil))))), ?_⟩
  refine ⟨rfl, fun x dx nx nd ne => ?_⟩
  refine ⟨x, dx, 1, 0, 1, rfl, upd_same, ⟨by omega, by omega, by omega⟩, by omega, fun H' e N => ⟨rfl, hQ _ H' (made_ext nx nd e) N⟩⟩
theorem ok_and (F : FD K "__and__" "Net.__and__" (sNet 8) f fd) (B : Bl mg) (T : NetF K mg C) (FN : FnR P w K mg base C0 3 fN (spNetInit C)) (mk : Mk K C fN) (FC : FnR P w K mg base C0 2 fC spCom) (GC : Gb K mg "common_numbers" fC)
    (hs : PySem.W.kitOne K (.ref C) (.ref C) = some true) : FnR P w K mg base C0 5 f (spAnd C) := by
  refine rawOf (okOf F scNetAnd (fun vs H Q E h => ?_) fun cdv A outer s H vs Q E hr h => ?_) (F.bindsN fun _ _ _ _ _ _ us hl => match us, hl with | [_, _], _ => rfl)
  · obtain ⟨_, _, _, _, _, _, _, _, rfl, _⟩ := h; rfl
  obtain ⟨v, u, a, b, c, p, q, r, rfl, ⟨n, dx, t, rfl, hn, ht, ok, hz1⟩, ⟨n', dx', t', rfl, hn', ht', ok', hz2⟩, hz, hQ⟩ := h
  refine ⟨_, pss_cons (ps_if (pt_not (pt_val (pe_callB call_isi rfl B.isinstance bIsi (pa_cons (pv 1) (pa_cons (pe_glob (v := .ref C) rfl T.g rfl) pa_nil))))) pss_never pss_nil)
    (pss_cons (ps_set (i := 2) scNetAnd.nd rfl (Or.inl rfl) (pe_g FC GC (hr.mono (by decide)) rfl (pa_cons (pe_fld (pv 0) rfl) (pa_cons (pe_fld (pv 1) rfl) pa_nil))))
    (pss_one (ps_ret (StX.pe_makeR mk FN hr rfl T.g (passes0 (E := EN)) (pa_cons (pe_ix ix_tup (pv 2) pe_int (fun _ _ => rfl)) (pa_cons (pe_ix ix_tup (pv 2) pe_int (fun _ _ => rfl)) (pa_cons (pe_ix ix_tup (pv 2) pe_int (fun _ _ => rfl)) pa_nil))))))), ?_⟩
  refine ⟨_, rfl, _, _, _, _, true, rfl, .own C, T.kl.ty hn', hs, true, rfl, iteF ?_⟩
  refine ⟨_, rfl, n, C, dx, _, _, rfl, hn, T.kl.cl, T.na, rfl, _, rfl, n', C, dx', _, _, rfl, hn', T.kl.cl, T.na, rfl, ?_⟩
  refine ⟨t, t', a, b, c, p, q, r, rfl, ht, ht', ok, ok', hz, fun z a' b' c' H1 e1 hzz ok1 hin hsz => ?_⟩
  refine ⟨_, rfl, z, _, _, _, rfl, rfl, SqT.of hzz, atI_nat (j := 0) rfl, _, rfl, z, _, _, _, rfl, rfl, SqT.of hzz, atI_nat (j := 1) rfl, _, rfl, z, _, _, _, rfl, rfl, SqT.of hzz, atI_nat (j := 2) rfl, ?_⟩
  intro x dx2 nx nd ne
  exact ⟨x, dx2, a', b', c', rfl, upd_same, ok1, by omega, fun H' e N => ⟨rfl, hQ _ _ _ _ H' (e1.trans (made_ext nx nd e)) N hin hsz⟩⟩
theorem ok_netEq (F : FD K "__eq__" "Net.__eq__" (sNet 11) f fd) (B : Bl mg) (T : NetF K mg C) (hs : PySem.W.kitOne K (.ref C) (.ref C) = some true) : FnR P w K mg base C0 1 f (spNetEq C) := by
  refine rawOf (okOf F scNetEq (fun vs H Q E h => ?_) fun cdv A outer s H vs Q E hr h => ?_) (F.bindsN fun _ _ _ _ _ _ us hl => match us, hl with | [_, _], _ => rfl)
  · obtain ⟨_, _, _, _, _, _, _, _, rfl, _⟩ := h; rfl
  obtain ⟨v, u, a, b, c, p, q, r, rfl, ⟨n, dx, t, rfl, hn, ht, ok, hz1⟩, ⟨n', dx', t', rfl, hn', ht', ok', hz2⟩, hQ⟩ := h
  refine ⟨_, pss_one (ps_ret (pe_and (pe_callB call_isi rfl B.isinstance bIsi (pa_cons (pv 1) (pa_cons (pe_glob (v := .ref C) rfl T.g rfl) pa_nil))) (pe_one (pe_cmpR (op_eqD hr.units) (pe_fld (pv 0) rfl) (pe_fld (pv 1) rfl) (nomark _))))), ?_⟩
  refine ⟨_, rfl, _, _, _, _, true, rfl, .own C, T.kl.ty hn', hs, true, rfl, ?_⟩
  refine iteT ⟨_, rfl, n, C, dx, _, _, rfl, hn, T.kl.cl, T.na, rfl, _, rfl, n', C, dx', _, _, rfl, hn', T.kl.cl, T.na, rfl, ?_⟩
  refine ⟨_, _, .tup (SqT.of ht) (.cons (.int a) (.cons (.int b) (.cons (.int c) .nil))), .tup (SqT.of ht') (.cons (.int p) (.cons (.int q) (.cons (.int r) .nil))), rfl, rfl, ?_⟩
  have e : PyData.eqv (.tuple [.int a, .int b, .int c]) (.tuple [.int p, .int q, .int r]) = decide (a = p ∧ b = q ∧ c = r) := by
    show (a == p && (b == q && (c == r && true))) = _
    rw [Bool.eq_iff_iff]
    simp
  rw [e]
  exact hQ
/-! Net.of -/
theorem scNetOf : FnScope ["shifts", "shift", "numbers"] (([] : List Str) ++ [("shifts" : Str)]) (defScope (sNet 1)) := ⟨rfl, rfl, rfl, by decide +kernel, rfl, by decide +kernel, by decide +kernel⟩
def spNetOf (C : Addr) : Sp := fun vs H Q _ => ∃ (t1 t2 : Addr) (x1 y1 x2 y2 : Int), vs = [.ref t1, .ref t2] ∧ H t1 = some (.tup [.int x1, .int y1]) ∧ H t2 = some (.tup [.int x2, .int y2]) ∧ x1 * y2 - x2 * y1 ≠ 0 ∧ (x1 * y2 - x2 * y1).natAbs ≤ 1000000 ∧ y1.natAbs ≤ 3000000 ∧ y2.natAbs ≤ 3000000 ∧
  ∀ z a b c H', Ex H H' → NetV C H' z a b c → (∀ u v, Mn.In a b c u v ↔ ∃ i j : Int, u = i * x1 + j * x2 ∧ v = i * y1 + j * y2) → Q z H'
theorem ok_of (F : FD K "of" "Net.of" (sNet 1) f fd) (T : NetF K mg C) (FN : FnR P w K mg base C0 3 fN (spNetInit C)) (mk : Mk K C fN) (FA : FnR P w K mg base C0 2 fA spForm) (GA : Gb K mg "form_of" fA) (FC : FnR P w K mg base C0 3 fC spChkPlace) (GC : Gb K mg "check_place" fC) :
    FnR P w K mg base C0 5 f (spNetOf C) := by
  obtain ⟨oc, od, dV, kV, doc, pm, an, cdv, ct, osl, rfl, lk, hcd, hD, _⟩ := F.ex
  obtain rfl : dV = .none := by
    rcases hD with ⟨_, h⟩ | ⟨h, _⟩
    · exact h
    · exact absurd rfl h
  have G := StX.fn_star (P := P) (w := w) (mg := mg) (base := base) (CX := C0) (k := 4) (N := ["shifts", "shift", "numbers"]) (ps := []) (pv := "shifts") (sp := fun vs H Q _ => ∃ (p t1 t2 : Addr) (x1 y1 x2 y2 : Int), vs = [.ref p] ∧ H p = some (.tup [.ref t1, .ref t2]) ∧ H t1 = some (.tup [.int x1, .int y1]) ∧ H t2 = some (.tup [.int x2, .int y2]) ∧ x1 * y2 - x2 * y1 ≠ 0 ∧ (x1 * y2 - x2 * y1).natAbs ≤ 1000000 ∧ y1.natAbs ≤ 3000000 ∧ y2.natAbs ≤ 3000000 ∧
    ∀ z a b c H', Ex H H' → NetV C H' z a b c → (∀ u v, Mn.In a b c u v ↔ ∃ i j : Int, u = i * x1 + j * x2 ∧ v = i * y1 + j * y2) → Q z H') lk hcd scNetOf StX.cxUp_none (fun us rest hl => ?_) (fun A outer s H vs Q E hr h => ?_)
  · refine G.imp fun vs H Q E ⟨t1, t2, x1, y1, x2, y2, h0, h1, h2, h3, h4, h5, h6, h7⟩ => ⟨[], vs, rfl, rfl, ?_, fun p np => ⟨p, t1, t2, x1, y1, x2, y2, rfl, ?_, Ex.upd np _ _ h1, Ex.upd np _ _ h2, h3, h4, h5, h6, fun z a b c H' e => h7 z a b c H' ((Ex.upd np).trans e)⟩⟩
    · rw [h0]; show 2 ≤ sizeLine; decide
    · rw [upd_same, h0]
  · obtain rfl : us = [] := List.eq_nil_of_length_eq_zero hl
    cases rest with
    | nil => rfl
    | cons r rs => rfl
  obtain ⟨p, t1, t2, x1, y1, x2, y2, rfl, hp, h1, h2, hdet, hdb, b1, b2, hQ⟩ := h
  refine ⟨_, PSs.nox (pss_cons (ps_for PassesOwn.never rfl (pi_tup (pv 0)) (pg_name (i := 1) scNetOf.nd rfl (Or.inl rfl)) (pss_one (ps_expr (pe_g FC GC (hr.mono (by decide)) rfl (pa_cons (pv 1) pa_nil)))))
    (pss_cons (ps_set (i := 2) scNetOf.nd rfl (Or.inl rfl) (pe_g FA GA (hr.mono (by decide)) rfl (pa_cons (pv 0) pa_nil)))
    (pss_cons (ps_if (pt_cmpR op_isN (pv 2) pe_non (nomark _)) pss_never pss_nil)
    (pss_one (ps_ret (StX.pe_makeR mk FN hr rfl T.g (passes0 (E := EN)) (pa_cons (pe_ix ix_tup (pv 2) pe_int (fun _ _ => rfl)) (pa_cons (pe_ix ix_tup (pv 2) pe_int (fun _ _ => rfl)) (pa_cons (pe_ix ix_tup (pv 2) pe_int (fun _ _ => rfl)) pa_nil))))))))), ?_⟩
  refine ⟨_, rfl, p, rfl, ⟨_, SqT.of hp⟩, ?_⟩
  refine for_by (walk_tup (SqT.of hp)) (fun i σ H' => Ex H H' ∧ ∃ X, σ = [some (.ref p), X, none]) ⟨Ex.refl _, _, rfl⟩ (fun i σ H' _ h => h.1) ?_ ?_
  · rintro i x σ H' hi hx ⟨e, X, rfl⟩
    obtain ⟨t, u, v, rfl, ht⟩ : ∃ (t : Addr) (u v : Int), x = .ref t ∧ H t = some (.tup [.int u, .int v]) := by
      have hi : i < 2 := hi
      match i, hi with
      | 0, _ => exact ⟨t1, x1, y1, by simpa using hx.symm, h1⟩
      | 1, _ => exact ⟨t2, x2, y2, by simpa using hx.symm, h2⟩
    exact ⟨_, rfl, t, u, v, rfl, e _ _ ht, fun H2 e2 => ⟨e.trans e2, _, rfl⟩⟩
  · rintro σ H' ⟨e, X, rfl⟩
    refine ⟨_, rfl, p, t1, t2, x1, y1, x2, y2, rfl, e _ _ hp, e _ _ h1, e _ _ h2, hdet, b1, b2, fun z a b c H2 e2 hz ok hin => ?_⟩
    refine ⟨_, rfl, rfl, _, rfl, ?_⟩
    have hd : decide (V.ref z = V.non) = false := rfl
    refine iteF ?_
    refine ⟨_, rfl, z, _, _, _, rfl, rfl, SqT.of hz, atI_nat (j := 0) rfl, _, rfl, z, _, _, _, rfl, rfl, SqT.of hz, atI_nat (j := 1) rfl, _, rfl, z, _, _, _, rfl, rfl, SqT.of hz, atI_nat (j := 2) rfl, ?_⟩
    intro n dx nn nd ne
    have hac : a * c ≤ 1000000 := by
      have h3 := Mn.in_det ((hin x1 y1).mpr ⟨1, 0, by omega, by omega⟩) ((hin x2 y2).mpr ⟨0, 1, by omega, by omega⟩)
      have h4 := Int.natAbs_dvd_natAbs.mpr h3
      have h5 := Nat.le_of_dvd (by omega) h4
      omega
    exact ⟨n, dx, a, b, c, rfl, upd_same, ok, hac, fun H3 e3 N => ⟨rfl, hQ _ a b c H3 ((e.trans e2).trans (made_ext nn nd e3)) N hin⟩⟩
end
end Wk
end
section
set_option maxHeartbeats 4000000
/-! Net: spanning, mul. -/
namespace Wk
open PySem PySem.Spec PyProof.Rows L2 Cl
theorem scSpan : FnScope ["self", "a", "b", "c"] ["self"] (defScope (sNet 5)) := ⟨rfl, rfl, rfl, by decide +kernel, rfl, by decide +kernel, by decide +kernel⟩
def spSpan (C : Addr) : Sp := fun vs H Q _ => ∃ (v : V) (a b c : Int), vs = [v] ∧ NetV C H v a b c ∧ ∀ D t1 t2 H', Ex H H' → H' D = some (.lst [.ref t1, .ref t2]) → H' t1 = some (.tup [.int a, .int 0]) → H' t2 = some (.tup [.int b, .int c]) → Q (.ref D) H'
theorem scKind : FnScope ["self"] ["self"] (defScope (sMot 3)) := ⟨rfl, rfl, rfl, by decide +kernel, rfl, by decide +kernel, by decide +kernel⟩
def spKind (C : Addr) : Sp := fun vs H Q _ => ∃ (v : V) (k : Str) (x y : Int), vs = [v] ∧ MotV C H v k x y ∧ Q (.str k) H
theorem scNetMul : FnScope ["self", "motion", "one", "other"] ["self", "motion"] (defScope (sNet 10)) := ⟨rfl, rfl, rfl, by decide +kernel, rfl, by decide +kernel, by decide +kernel⟩
def spNetMul (C M : Addr) : Sp := fun vs H Q _ => ∃ (v m : V) (a b c p q r s x y : Int) (k : Str), vs = [v, m] ∧ NetV C H v a b c ∧ MotV M H m k x y ∧ mats.lookup k = some (p, q, r, s) ∧
  ∀ z a' b' c' H', Ex H H' → NetV C H' z a' b' c' → (∀ u v, Mn.In a' b' c' u v ↔ ∃ u0 v0, Mn.In a b c u0 v0 ∧ u = p * u0 + q * v0 ∧ v = r * u0 + s * v0) → a' * c' ≤ a * c → Q z H'
theorem mats_det {k : Str} {p q r s : Int} (h : mats.lookup k = some (p, q, r, s)) : p * s - q * r = 1 ∨ p * s - q * r = -1 := by
  have hm := PySem.mem_of_lookup h
  have all : ∀ m ∈ mats, m.2.1 * m.2.2.2.2 - m.2.2.1 * m.2.2.2.1 = 1 ∨ m.2.1 * m.2.2.2.2 - m.2.2.1 * m.2.2.2.1 = -1 := by decide +kernel
  exact all _ hm
section
variable {P : Program} {w : World} {K : PySem.W.Frag} {mg : Str → Option Value} {base : Heap} {f fA fN fI fB fC fS fT fO C M : Addr} {fd fdK : FuncData}
theorem ok_span (F : FD K "spanning" "Net.spanning" (sNet 5) f fd) (T : NetF K mg C) : FnR P w K mg base C0 1 f (spSpan C) := by
  refine rawOf (okOf F scSpan (fun vs H Q E h => ?_) fun cdv A outer s H vs Q E hr h => ?_) (F.bindsN fun _ _ _ _ _ _ us hl => match us, hl with | [_], _ => rfl)
  · obtain ⟨_, _, _, _, rfl, _⟩ := h; rfl
  obtain ⟨v, a, b, c, rfl, ⟨n, dx, q, rfl, hn, hq, ok, _⟩, hQ⟩ := h
  refine ⟨_, pss_cons (ps_asg (pe_fld (pv 0) rfl) (pg_tup rfl (pgs_cons (pg_name (i := 1) scSpan.nd rfl (Or.inl rfl)) (pgs_cons (pg_name (i := 2) scSpan.nd rfl (Or.inl rfl)) (pgs_cons (pg_name (i := 3) scSpan.nd rfl (Or.inl rfl)) pgs_nil)))))
    (pss_one (ps_ret (pe_lst (pa_cons (pe_tup (pa_cons (pv 1) (pa_cons pe_int pa_nil))) (pa_cons (pe_tup (pa_cons (pv 2) (pa_cons (pv 3) pa_nil))) pa_nil))))), ?_⟩
  refine ⟨_, rfl, n, C, dx, _, _, rfl, hn, T.kl.cl, T.na, rfl, q, _, rfl, SqT.of hq, rfl, _, _, rfl, _, _, rfl, _, _, rfl, rfl, ?_⟩
  refine ⟨_, rfl, by show 2 ≤ sizeLine; decide, fun t1 n1 => ⟨_, rfl, _, rfl, by show 2 ≤ sizeLine; decide, fun t2 n2 => ⟨by show 2 ≤ sizeLine; decide, fun D nD => ?_⟩⟩⟩
  have e1 : Ex H (upd H t1 (.tup [.int a, .int 0])) := Ex.upd n1
  have e2 : Ex (upd H t1 (.tup [.int a, .int 0])) (upd (upd H t1 (.tup [.int a, .int 0])) t2 (.tup [.int b, .int c])) := Ex.upd n2
  exact hQ D t1 t2 _ ((e1.trans e2).trans (Ex.upd nD)) upd_same (Ex.upd nD _ _ (e2 _ _ upd_same)) (Ex.upd nD _ _ upd_same)
theorem ok_kind (F : FD K "kind" "Motion.kind" (sMot 3) f fd) (cl : Cls K C) (n1 : NoAttr K C "own_kind") : FnOk P w K mg base C0 1 f fd ["self"] (spKind C) := by
  refine okOf F scKind (fun vs H Q E h => ?_) fun cdv A outer s H vs Q E hr h => ?_
  · obtain ⟨_, _, _, _, rfl, _⟩ := h; rfl
  obtain ⟨v, k, x, y, rfl, ⟨o, dx, t, rfl, ho, ht⟩, hQ⟩ := h
  exact ⟨_, pss_one (ps_ret (pe_fld (pv 0) rfl)), _, rfl, o, C, dx, _, _, rfl, ho, cl, n1, rfl, hQ⟩
theorem ok_netMul (F : FD K "__mul__" "Net.__mul__" (sNet 10) f fd) (T : NetF K mg C) (FS : FnR P w K mg base C0 1 fS (spSpan C)) (MS : Ms K [C] "spanning" fS) (FO : FnR P w K mg base C0 5 fO (spNetOf C)) (SO : Ss K C "of" fO) (FT : FnR P w K mg base C0 1 fT spTurned) (GT : Gb K mg "turned" fT)
    (FK : FnOk P w K mg base C0 1 fI fdK ["self"] (spKind M)) (bK : L2.Binds K fdK ["self"] []) (PK : Ps K [M] "kind" fI) : FnR P w K mg base C0 6 f (spNetMul C M) := by
  refine rawOf (okOf F scNetMul (fun vs H Q E h => ?_) fun cdv A outer s H vs Q E hr h => ?_) (F.bindsN fun _ _ _ _ _ _ us hl => match us, hl with | [_, _], _ => rfl)
  · obtain ⟨_, _, _, _, _, _, _, _, _, _, _, _, rfl, _⟩ := h; rfl
  obtain ⟨v, m, a, b, c, p, q, r, s', x, y, k, rfl, N, hm, hk, hQ⟩ := h
  have N0 := N
  obtain ⟨ok, l1, l2, l3⟩ := N0.ok
  have a0 := ok.a
  have c0 := ok.c
  have b0 := ok.b0
  have b1 := ok.ba
  obtain ⟨⟨p0, p1⟩, ⟨q0, q1⟩, ⟨r0, r1⟩, s0, s1⟩ := mats_small hk
  obtain ⟨n, dx, q', rfl, hn, hq, _⟩ := N
  obtain ⟨o, dx', t, rfl, ho, ht⟩ := hm
  have kd := pe_p (X := (cxOf C0 P w K mg base ["self", "motion", "one", "other"] "Net.__mul__" (defScope (sNet 10)) f cdv A outer s H E).nox) (e := .Name "motion" ⟨0, 0, 0, 0⟩) (pv 1) PK FK bK (hr.mono (by decide)) (pos := ⟨0, 0, 0, 0⟩)
  refine ⟨_, pss_cons (ps_asg (pe_m0 (pv 0) MS FS (hr.mono (by decide))) (pg_lst rfl (pgs_cons (pg_name (i := 2) scNetMul.nd rfl (Or.inl rfl)) (pgs_cons (pg_name (i := 3) scNetMul.nd rfl (Or.inl rfl)) pgs_nil))))
    (pss_one (ps_ret (pe_s (pe_glob (v := .ref C) rfl T.g rfl) SO FO hr (pa_cons (pe_g FT GT (hr.mono (by decide)) rfl (pa_cons (pe_p (pv 1) PK FK bK (hr.mono (by decide))) (pa_cons (pv 2) pa_nil))) (pa_cons (pe_g FT GT (hr.mono (by decide)) rfl (pa_cons (pe_p (pv 1) PK FK bK (hr.mono (by decide))) (pa_cons (pv 3) pa_nil))) pa_nil))))), ?_⟩
  refine ⟨_, rfl, n, C, dx, _, rfl, List.mem_singleton.mpr rfl, hn, rfl, _, a, b, c, rfl, N0, fun D t1 t2 H1 e1 hD h1 h2 => ?_⟩
  refine ⟨D, _, rfl, SqL.of hD, rfl, _, _, rfl, _, _, rfl, rfl, ?_⟩
  have hm1 : MotV M H1 (.ref o) k x y := MotV.ext ⟨o, dx', t, rfl, ho, ht⟩ e1
  refine ⟨rfl, _, rfl, o, M, dx', _, rfl, List.mem_singleton.mpr rfl, e1 _ _ ho, _, k, x, y, rfl, hm1, _, rfl, ?_⟩
  refine ⟨k, t1, p, q, r, s', a, 0, rfl, hk, h1, fun z1 H2 e2 hz1 => ?_⟩
  refine ⟨_, rfl, o, M, dx', _, rfl, List.mem_singleton.mpr rfl, e2 _ _ (e1 _ _ ho), _, k, x, y, rfl, hm1.ext e2, _, rfl, ?_⟩
  refine ⟨k, t2, p, q, r, s', b, c, rfl, hk, e2 _ _ h2, fun z2 H3 e3 hz2 => ?_⟩
  have ac : 0 < a * c := Int.mul_pos a0 c0
  have hdet : (p * a + q * 0) * (r * b + s' * c) - (p * b + q * c) * (r * a + s' * 0) = (p * s' - q * r) * (a * c) := by grind
  have rb : ∀ {z n : Int}, -1 ≤ z → z ≤ 1 → 0 ≤ n → -n ≤ z * n ∧ z * n ≤ n := fun {z n} h1 h2 h3 => by
    have l1 := Int.mul_le_mul_of_nonneg_right h1 h3
    have l2 := Int.mul_le_mul_of_nonneg_right h2 h3
    omega
  have ra := rb r0 r1 (show 0 ≤ a by omega)
  have rbb := rb r0 r1 b0
  have sc := rb s0 s1 (show 0 ≤ c by omega)
  have dt := mats_det hk
  refine ⟨z1, z2, p * a + q * 0, r * a + s' * 0, p * b + q * c, r * b + s' * c, rfl, e3 _ _ hz1, hz2, ?_, ?_, by omega, by omega, fun z a' b' c' H4 e4 N' hin => ?_⟩
  · rw [hdet]
    rcases dt with h | h <;> rw [h] <;> omega
  · rw [hdet]
    rcases dt with h | h <;> rw [h] <;> omega
  · refine hQ z a' b' c' H4 (((e1.trans e2).trans e3).trans e4) N' (fun u v => ?_) ?_
    · rw [hin u v]
      constructor
      · rintro ⟨i, j, rfl, rfl⟩
        exact ⟨j * b + i * a, j * c, ⟨j, i, rfl, rfl⟩, by grind, by grind⟩
      · rintro ⟨u0, v0, ⟨j, i, rfl, rfl⟩, rfl, rfl⟩
        exact ⟨i, j, by grind, by grind⟩
    · have h3 := Mn.in_det ((hin (p * a + q * 0) (r * a + s' * 0)).mpr ⟨1, 0, by omega, by omega⟩) ((hin (p * b + q * c) (r * b + s' * c)).mpr ⟨0, 1, by omega, by omega⟩)
      rw [hdet] at h3
      rcases dt with h | h <;> rw [h] at h3
      · rw [Int.one_mul] at h3
        exact Int.le_of_dvd ac h3
      · rw [Int.neg_mul, Int.one_mul] at h3
        exact Int.le_of_dvd ac (Int.dvd_neg.mp h3)
end
end Wk
end
section
set_option maxHeartbeats 4000000
/-! Texts; colours, rows. -/
namespace Wk
open PySem PySem.Spec PyProof.Rows L2 Cl TL
/-- a text by its signs -/
def mkS (l : List Nat) : Str := ⟨l.toArray⟩
theorem mkS_len (l : List Nat) : (mkS l).length = l.length := by simp [mkS, Str.length]
theorem mkS_list (l : List Nat) : (mkS l).cps.toList = l := by simp [mkS]
theorem mkS_inj {l m : List Nat} (h : mkS l = mkS m) : l = m := by
  have := congrArg (fun z : Str => z.cps.toList) h
  simpa [mkS] using this
theorem join_signs (l : List Nat) : Txt.join "" (l.map fun c => (mkS [c])) = mkS l := by
  refine ext_tl ?_
  rw [join_eq, tl_join]
  have e : tl (("" : Str)) = [] := by decide +kernel
  rw [e, List.map_map]
  have key : ∀ m : List Nat, joinL [] (m.map (tl ∘ fun c => mkS [c])) = m := fun m => by
    induction m with
    | nil => rfl
    | cons c r ih =>
      cases r with
      | nil => rfl
      | cons d r' =>
        show [c] ++ [] ++ joinL [] ((d :: r').map (tl ∘ fun c => mkS [c])) = _
        rw [ih]; rfl
  exact key l
def Letter (n : Nat) : Prop := 97 ≤ n ∧ n ≤ 122
theorem let_list : letS.cps.toList = List.range' 97 26 := by decide +kernel
theorem let_mem (n : Nat) : n ∈ letS.cps.toList ↔ Letter n := by
  rw [let_list, List.mem_range'_1]
  unfold Letter
  omega
structure LetF (mg : Str → Option Value) : Prop where
  g : ∃ t, mg "LETTERS" = some (.str letS t)
/-- the text of a colouring's cell -/
def txt (a c : Int) (f : Int → Int → Nat) : List Nat := (List.range (a * c).toNat).map fun (i : Nat) => f ((i : Int) % a) ((i : Int) / a)
theorem txt_len (a c : Int) (f : Int → Int → Nat) : (txt a c f).length = (a * c).toNat := by simp [txt]
theorem cell_ix {a c x y : Int} (hx : 0 ≤ x) (hx2 : x < a) (hy : 0 ≤ y) (hy2 : y < c) : 0 ≤ y * a + x ∧ y * a + x < a * c ∧ (y * a + x) % a = x ∧ (y * a + x) / a = y := by
  have h0 : 0 ≤ y * a := Int.mul_nonneg hy (by omega)
  have h1 : (y + 1) * a ≤ c * a := Int.mul_le_mul_of_nonneg_right (by omega) (by omega)
  rw [Int.add_mul, Int.one_mul, Int.mul_comm c a] at h1
  refine ⟨by omega, by omega, ?_, ?_⟩
  · rw [Int.add_comm, Int.add_mul_emod_self_right, Int.emod_eq_of_lt hx hx2]
  · rw [Int.add_comm, Int.add_mul_ediv_right _ _ (by omega), Int.ediv_eq_zero_of_lt hx hx2]; omega
theorem txt_at {a c x y : Int} {f : Int → Int → Nat} (hx : 0 ≤ x) (hx2 : x < a) (hy : 0 ≤ y) (hy2 : y < c) : (txt a c f)[(y * a + x).toNat]? = some (f x y) := by
  obtain ⟨h1, h2, h3, h4⟩ := cell_ix hx hx2 hy hy2
  unfold txt
  rw [List.getElem?_map, List.getElem?_range (by omega)]
  show some (f (((y * a + x).toNat : Int) % a) (((y * a + x).toNat : Int) / a)) = _
  rw [Int.toNat_of_nonneg h1, h3, h4]
theorem txt_congr {a c : Int} {f g : Int → Int → Nat} (ha : 0 < a) (h : ∀ x y, 0 ≤ x → x < a → 0 ≤ y → y < c → f x y = g x y) : txt a c f = txt a c g := by
  unfold txt
  refine List.map_congr_left fun i hi => ?_
  have hi := List.mem_range.mp hi
  refine h _ _ (Int.emod_nonneg _ (by omega)) (Int.emod_lt_of_pos _ ha) (Int.ediv_nonneg (by omega) (by omega)) ?_
  refine Int.ediv_lt_of_lt_mul ha ?_
  rw [Int.mul_comm c a]
  omega
theorem txt_inj {a c : Int} {f g : Int → Int → Nat} (h : txt a c f = txt a c g) : ∀ x y, 0 ≤ x → x < a → 0 ≤ y → y < c → f x y = g x y := fun x y h1 h2 h3 h4 => by
  have e1 := txt_at (f := f) h1 h2 h3 h4
  have e2 := txt_at (f := g) h1 h2 h3 h4
  rw [h, e2] at e1
  exact (Option.some.inj e1).symm
theorem scIsCol : FnScope ["value"] ["value"] (defScope sIsCol) := ⟨rfl, rfl, rfl, by decide +kernel, rfl, by decide +kernel, by decide +kernel⟩
def spIsCol : Sp := fun vs H Q _ => ∃ n : Nat, vs = [.str (mkS [n])] ∧ Letter n ∧ Q (.bl true) H
theorem scChkCol : FnScope ["value"] ["value"] (defScope sChkCol) := ⟨rfl, rfl, rfl, by decide +kernel, rfl, by decide +kernel, by decide +kernel⟩
def spChkCol : Sp := fun vs H Q _ => ∃ n : Nat, vs = [.str (mkS [n])] ∧ Letter n ∧ Q .non H
theorem scIsRow : FnScope ["value", "signs", "most", "sign"] ["value", "signs", "most"] (defScope sIsRow) := ⟨rfl, rfl, rfl, by decide +kernel, rfl, by decide +kernel, by decide +kernel⟩
def spIsRow : Sp := fun vs H Q _ => ∃ (l : List Nat) (m : Int), vs = [.str (mkS l), .str letS, .int m] ∧ 1 ≤ l.length ∧ (l.length : Int) ≤ m ∧ l.length ≤ 1000000 ∧ (∀ n ∈ l, Letter n) ∧ ∀ H', Ex H H' → Q (.bl true) H'
theorem walk_str {l : List Nat} {H1 : Hp} : Walk (Its (mkS l)) H1 l.length (fun i x => ∃ c, l[i]? = some c ∧ x = .str (mkS [c])) :=
  ⟨fun i H _ h => by show i < (mkS l).cps.size; simpa [mkS] using h, fun i H x H' _ _ q => by
    obtain ⟨q1, c, q2, q3⟩ := q
    exact ⟨q1, c, by simpa [mkS] using q2, q3⟩, fun H _ => by show (mkS l).cps.size ≤ l.length; simp [mkS]⟩
section
variable {P : Program} {w : World} {K : PySem.W.Frag} {mg : Str → Option Value} {base : Heap} {f fA fN fI fB fC C : Addr} {fd : FuncData}
theorem ok_isCol (F : FD K "is_colour" "is_colour" sIsCol f fd) (B : Bl mg) (L : LetF mg) : FnR P w K mg base C0 1 f spIsCol := by
  obtain ⟨tk, gL⟩ := L.g
  refine rawOf (okOf F scIsCol (fun vs H Q E h => ?_) fun cdv A outer s H vs Q E hr h => ?_) (F.bindsN fun _ _ _ _ _ _ us hl => match us, hl with | [_], _ => rfl)
  · obtain ⟨_, rfl, _⟩ := h; rfl
  obtain ⟨n, rfl, hn, hQ⟩ := h
  refine ⟨_, pss_one (ps_ret (pe_and (pe_callB call_isi rfl B.isinstance bIsi (pa_cons (pv 0) (pa_cons (pe_bltn (v := .ty "str") rfl B.str bS rfl) pa_nil)))
    (pe_and (pe_cmpR op_eq (pe_callB call_len_str rfl B.len PySem.boot_len (pa_cons (pv 0) pa_nil)) pe_int (nomark _)) (pe_one (pe_cmpR op_in_sign (pv 0) (pe_glob (v := .str letS) rfl gL ⟨_, rfl⟩) rfl))))), ?_⟩
  refine ⟨_, rfl, _, _, _, _, true, rfl, .ty "str", .base (.str _), kit_ty (by decide +kernel), true, rfl, ?_⟩
  refine iteT ⟨_, rfl, _, rfl, by show 1 ≤ sizeLine; decide, rfl, true, rfl, ?_⟩
  refine iteT ⟨_, rfl, n, letS, rfl, rfl, ?_⟩
  rw [decide_eq_true ((let_mem n).mpr hn)]
  exact hQ
theorem ok_chkCol (F : FD K "check_colour" "check_colour" sChkCol f fd) (FC : FnR P w K mg base C0 1 fC spIsCol) (GC : Gb K mg "is_colour" fC) : FnR P w K mg base C0 2 f spChkCol := by
  refine rawOf (okOf F scChkCol (fun vs H Q E h => ?_) fun cdv A outer s H vs Q E hr h => ?_) (F.bindsN fun _ _ _ _ _ _ us hl => match us, hl with | [_], _ => rfl)
  · obtain ⟨_, rfl, _⟩ := h; rfl
  obtain ⟨n, rfl, hn, hQ⟩ := h
  refine ⟨_, pss_one (ps_if (pt_not (pt_val (pe_g FC GC hr rfl (pa_cons (pv 0) pa_nil)))) pss_never pss_nil), ?_⟩
  exact ⟨_, rfl, n, rfl, hn, true, rfl, iteF hQ⟩
theorem ok_isRow (F : FD K "is_row" "is_row" sIsRow f fd) (B : Bl mg) : FnR P w K mg base C0 1 f spIsRow := by
  refine rawOf (okOf F scIsRow (fun vs H Q E h => ?_) fun cdv A outer s H vs Q E hr h => ?_) (F.bindsN fun _ _ _ _ _ _ us hl => match us, hl with | [_, _, _], _ => rfl)
  · obtain ⟨_, _, rfl, _⟩ := h; rfl
  obtain ⟨l, m, rfl, hl1, hl2, hl3, hL, hQ⟩ := h
  refine ⟨_, pss_one (ps_ret (pe_and (pe_callB call_isi rfl B.isinstance bIsi (pa_cons (pv 0) (pa_cons (pe_bltn (v := .ty "str") rfl B.str bS rfl) pa_nil)))
    (pe_and (pe_chain op_le op_le pe_int (pe_callB call_len_str rfl B.len PySem.boot_len (pa_cons (pv 0) pa_nil)) (pv 2))
    (pe_one (pe_callB (cr_all rfl) rfl B.all bAll (pa_cons (pe_lc (own := [("sign", 3)]) (g := gName 3) (tt := tYes) rfl scIsRow.nd (pi_str (pv 0)) (blkOk_by (N := ["value", "signs", "most", "sign"]) (sc := defScope sIsRow) (by decide +kernel))
      (fun _ _ _ _ _ => pg_name (i := 3) scIsRow.nd rfl (Or.inl rfl)) (fun _ _ _ _ _ => pts_nil) (fun _ _ _ _ _ => pe_cmpR op_in_sign (pv 3) (pv 1) rfl)) pa_nil)))))), ?_⟩
  refine ⟨_, rfl, _, _, _, _, true, rfl, .ty "str", .base (.str _), kit_ty (by decide +kernel), true, rfl, ?_⟩
  have hsz : (mkS l).length ≤ sizeLine := by rw [mkS_len]; exact Nat.le_trans hl3 (by decide)
  refine iteT ⟨_, rfl, _, rfl, hsz, _, _, rfl, rfl, _, rfl, ?_⟩
  rw [mkS_len, decide_eq_true (show (1 : Int) ≤ (l.length : Int) by omega)]
  refine iteT ⟨_, rfl, _, _, rfl, rfl, _, rfl, ?_⟩
  rw [decide_eq_true hl2]
  refine iteT ⟨_, rfl, _, rfl, fun D hD => ?_⟩
  refine lc_by (R := fun j o _ => j < l.length ∧ o = some (.bl true)) walk_str hD (fun i v H1 hi hv p => ?_) (fun H1 p => ?_)
  · obtain ⟨c, hc, rfl⟩ := hv
    refine ⟨rfl, _, rfl, _, rfl, c, letS, rfl, rfl, ?_⟩
    rw [decide_eq_true ((let_mem c).mpr (hL c (List.mem_of_getElem? hc)))]
    exact p.yes (fun j o H H' _ r => r) hD (Ex.refl _) ⟨hi, rfl⟩ (Nat.lt_of_lt_of_le hi (Nat.le_trans hl3 (by decide)))
  · obtain ⟨e, outs, hl, hDl, ho⟩ := p
    have e2 : outs.filterMap id = (List.replicate l.length true).map V.bl := outs_some (ys := (List.replicate l.length true).map V.bl) (by simp [hl]) fun j o q => by
      obtain ⟨h1, h2⟩ := ho j o q
      exact ⟨.bl true, by simp [h1], h2⟩
    rw [e2] at hDl
    refine ⟨D, _, rfl, SqL.of hDl, ?_⟩
    have : (List.replicate l.length true).all id = true := by simp
    rw [this]
    exact hQ _ e
end
end Wk
end
section
set_option maxHeartbeats 4000000
/-! colour_at, is_kept. -/
namespace Wk
open PySem PySem.Spec PyProof.Rows L2 Cl
/-- the net's shifts keep the colouring -/
def PerN (a b c : Int) (f : Int → Int → Nat) : Prop := ∀ u v, Mn.In a b c u v → Mn.Per f u v
theorem scColAt : FnScope ["net", "text", "place", "x", "y"] ["net", "text", "place"] (defScope sColAt) := ⟨rfl, rfl, rfl, by decide +kernel, rfl, by decide +kernel, by decide +kernel⟩
def spColAt (C : Addr) : Sp := fun vs H Q _ => ∃ (v : V) (t : Addr) (a b c x y : Int) (g : Int → Int → Nat), vs = [v, .str (mkS (txt a c g)), .ref t] ∧ NetV C H v a b c ∧ H t = some (.tup [.int x, .int y]) ∧ PerN a b c g ∧ ∀ H', Ex H H' → Q (.str (mkS [g x y])) H'
theorem scKept : FnScope ["net", "text", "shift", "place"] ["net", "text", "shift"] (defScope sKept) := ⟨rfl, rfl, rfl, by decide +kernel, rfl, by decide +kernel, by decide +kernel⟩
def spKept (C : Addr) : Sp := fun vs H Q _ => ∃ (v : V) (t : Addr) (a b c x y : Int) (g : Int → Int → Nat), vs = [v, .str (mkS (txt a c g)), .ref t] ∧ NetV C H v a b c ∧ H t = some (.tup [.int x, .int y]) ∧ PerN a b c g ∧ ∀ r H', Ex H H' → (r = true ↔ Mn.Per g x y) → Q (.bl r) H'
section
variable {P : Program} {w : World} {K : PySem.W.Frag} {mg : Str → Option Value} {base : Heap} {f fA fN fI fB fC fS fP C : Addr} {fd fdN : FuncData}
theorem ok_colAt (F : FD K "colour_at" "colour_at" sColAt f fd) (FP : FnR P w K mg base C0 1 fP (spNetPic C)) (MP : Ms K [C] "place_in_cell" fP) (FN : FnOk P w K mg base C0 1 fN fdN ["self"] (spNetNumbers C)) (bN : L2.Binds K fdN ["self"] []) (PN : Ps K [C] "numbers" fN) :
    FnR P w K mg base C0 3 f (spColAt C) := by
  refine rawOf (okOf F scColAt (fun vs H Q E h => ?_) fun cdv A outer s H vs Q E hr h => ?_) (F.bindsN fun _ _ _ _ _ _ us hl => match us, hl with | [_, _, _], _ => rfl)
  · obtain ⟨_, _, _, _, _, _, _, _, rfl, _⟩ := h; rfl
  obtain ⟨v, t, a, b, c, x, y, g, rfl, N, ht, per, hQ⟩ := h
  obtain ⟨ok, l1, l2, l3⟩ := N.ok
  have N0 := N
  obtain ⟨n, dx, q, rfl, hn, hq, _⟩ := N
  refine ⟨_, pss_cons (ps_asg (pe_m (pv 0) MP FP (hr.mono (by decide)) (pa_cons (pv 2) pa_nil)) (pg_tup rfl (pgs_cons (pg_name (i := 3) scColAt.nd rfl (Or.inl rfl)) (pgs_cons (pg_name (i := 4) scColAt.nd rfl (Or.inl rfl)) pgs_nil))))
    (pss_one (ps_ret (pe_ix ix_str (pv 1) (pe_op op_add (pe_op op_mul (pv 4) (pe_ix ix_tup (pe_p (pv 0) PN FN bN hr) pe_int (fun _ _ => rfl))) (pv 3)) (fun _ _ => rfl)))), ?_⟩
  refine ⟨_, rfl, n, C, dx, _, rfl, List.mem_singleton.mpr rfl, hn, rfl, _, rfl, ?_⟩
  refine ⟨_, t, a, b, c, x, y, rfl, N0, ht, fun z H1 e1 hz => ?_⟩
  obtain ⟨p1, p2, p3, p4⟩ := Mn.low_cell (x := x) (y := y) ok
  refine ⟨z, _, rfl, SqT.of hz, rfl, _, _, rfl, _, _, rfl, rfl, ?_⟩
  refine ⟨_, rfl, _, rfl, _, rfl, n, C, dx, _, rfl, List.mem_singleton.mpr rfl, e1 _ _ hn, ?_⟩
  refine ⟨_, a, b, c, rfl, N0.ext (Ex.l e1), fun q' hq' => ?_⟩
  refine ⟨q', _, _, _, rfl, rfl, SqT.of hq', atI_nat (j := 0) rfl, _, _, rfl, rfl, .inr ⟨by omega, by omega⟩, _, rfl, _, _, rfl, rfl, ?_⟩
  obtain ⟨i1, i2, _, _⟩ := Mn.low_cell (x := x) (y := y) ok
  obtain ⟨j1, j2, _, _⟩ := cell_ix p1 p2 p3 p4
  have hat := txt_at (f := g) p1 p2 p3 p4
  rw [Mn.f_low per] at hat
  refine ⟨_, _, g x y, rfl, rfl, ?_, ?_, hQ H1 e1⟩
  · rw [mkS_len, txt_len]; show _ ≤ 2 ^ 24; omega
  · rw [mkS_list]
    have := atI_nat hat
    rw [Int.toNat_of_nonneg j1] at this
    exact this
theorem ok_kept (F : FD K "is_kept" "is_kept" sKept f fd) (FS : FnR P w K mg base C0 1 fS (spSpots C)) (MS : Ms K [C] "spots" fS) (FC : FnR P w K mg base C0 3 fC (spColAt C)) (GC : Gb K mg "colour_at" fC) (FP : FnR P w K mg base C0 1 fP spPlus) (GP : Gb K mg "plus" fP) :
    FnR P w K mg base C0 4 f (spKept C) := by
  refine rawOf (okOf F scKept (fun vs H Q E h => ?_) fun cdv A outer s H vs Q E hr h => ?_) (F.bindsN fun _ _ _ _ _ _ us hl => match us, hl with | [_, _, _], _ => rfl)
  · obtain ⟨_, _, _, _, _, _, _, _, rfl, _⟩ := h; rfl
  obtain ⟨v, t, a, b, c, x, y, g, rfl, N, ht, per, hQ⟩ := h
  obtain ⟨ok, l1, l2, l3⟩ := N.ok
  have a0 := ok.a
  have N0 := N
  obtain ⟨n, dx, q, rfl, hn, hq, _⟩ := N
  refine ⟨_, pss_cons (ps_for PassesOwn.never rfl (pi_list (pe_m0 (pv 0) MS FS (hr.mono (by decide)))) (pg_name (i := 3) scKept.nd rfl (Or.inl rfl))
      (pss_one (ps_if (pt_cmpR op_ne (pe_g FC GC hr rfl (pa_cons (pv 0) (pa_cons (pv 1) (pa_cons (pv 3) pa_nil)))) (pe_g FC GC hr rfl (pa_cons (pv 0) (pa_cons (pv 1) (pa_cons (pe_g FP GP (hr.mono (by decide)) rfl (pa_cons (pv 3) (pa_cons (pv 2) pa_nil))) pa_nil)))) (nomark _)) (pss_one (ps_ret pe_bl)) pss_nil)))
    (pss_one (ps_ret pe_bl)), ?_⟩
  refine ⟨_, rfl, n, C, dx, _, rfl, List.mem_singleton.mpr rfl, hn, rfl, _, a, b, c, rfl, N0, fun D ts H1 e1 hD sp => ?_⟩
  refine ⟨D, rfl, ⟨_, SqL.of hD⟩, ?_⟩
  refine for_by (walk_lst (SqL.of hD)) (fun i σ H' => Ex H1 H' ∧ (∃ X, σ = [some (.ref n), some (.str (mkS (txt a c g))), some (.ref t), X]) ∧ ∀ j : Nat, j < i → g ((j : Int) % a) ((j : Int) / a) = g ((j : Int) % a + x) ((j : Int) / a + y)) ⟨Ex.refl _, ⟨_, rfl⟩, fun j hj => absurd hj (by omega)⟩ (fun i σ H' _ h => h.1) ?_ ?_
  · rintro i z σ H' hi hz ⟨e, ⟨X, rfl⟩, hk⟩
    obtain ⟨u, rfl, hu⟩ : ∃ u, z = .ref u ∧ ts[i]? = some u := by
      rw [List.getElem?_map] at hz
      cases h : ts[i]? with
      | none => rw [h] at hz; cases hz
      | some u => rw [h] at hz; exact ⟨u, (Option.some.inj hz).symm, rfl⟩
    have hu1 := sp.2 i u hu
    have e01 := e1.trans e
    refine ⟨_, rfl, _, rfl, _, rfl, _, u, a, b, c, _, _, g, rfl, N0.ext (Ex.l e01), e _ _ hu1, per, fun H2 e2 => ?_⟩
    refine ⟨_, rfl, _, rfl, _, rfl, _, rfl, u, t, _, _, x, y, rfl, e2 _ _ (e _ _ hu1), e2 _ _ (e01 _ _ ht), fun z' H3 e3 hz' => ?_⟩
    refine ⟨_, z', a, b, c, _, _, g, rfl, N0.ext (Ex.l ((e01.trans e2).trans e3)), hz', per, fun H4 e4 => ?_⟩
    refine ⟨rfl, _, rfl, ?_⟩
    by_cases h : g ((i : Int) % a) ((i : Int) / a) = g ((i : Int) % a + x) ((i : Int) / a + y)
    · rw [h, decide_eq_true rfl]
      refine iteF ⟨((e.trans e2).trans e3).trans e4, ⟨_, rfl⟩, fun j hj => ?_⟩
      by_cases hji : j = i
      · rw [hji]; exact h
      · exact hk j (by omega)
    · have hne : (V.str (mkS [g ((i : Int) % a) ((i : Int) / a)]) = V.str (mkS [g ((i : Int) % a + x) ((i : Int) / a + y)])) → False := fun z => h (by
        injection z with z
        simpa using mkS_inj z)
      rw [decide_eq_false hne]
      refine iteT (hQ false _ (((e01.trans e2).trans e3).trans e4) ⟨fun z => Bool.noConfusion z, fun hp => absurd ?_ h⟩)
      exact (hp _ _).symm
  · rintro σ H' ⟨e, ⟨X, rfl⟩, hk⟩
    refine hQ true H' (e1.trans e) ⟨fun _ => ?_, fun _ => rfl⟩
    refine Mn.per_of_cell ok per fun u v h1 h2 h3 h4 => ?_
    obtain ⟨i1, i2, i3, i4⟩ := cell_ix h1 h2 h3 h4
    have := hk (v * a + u).toNat (by rw [List.length_map, sp.1]; omega)
    rw [Int.toNat_of_nonneg i1, i3, i4] at this
    exact this
end
end Wk
end
section
set_option maxHeartbeats 4000000
/-! kept_net, least_cell. -/
namespace Wk
open PySem PySem.Spec PyProof.Rows L2 Cl
theorem divs_mem {n d : Int} (hn : 0 < n) : d ∈ divs n ↔ 0 < d ∧ d ∣ n := by
  unfold divs
  rw [List.mem_filter, List.mem_map]
  constructor
  · rintro ⟨⟨j, hj, rfl⟩, h⟩
    exact ⟨by omega, Int.dvd_of_emod_eq_zero (by simpa using h)⟩
  · rintro ⟨h1, h2⟩
    have := Int.le_of_dvd hn h2
    exact ⟨⟨(d - 1).toNat, List.mem_range.mpr (by omega), by omega⟩, by simpa using Int.emod_eq_zero_of_dvd h2⟩
theorem divs_up (n : Int) : (divs n).Pairwise (· < ·) := by
  unfold divs
  refine List.Pairwise.filter _ ?_
  rw [List.pairwise_map]
  refine List.Pairwise.imp ?_ List.pairwise_lt_range
  intro a b h
  omega
theorem first_out {P : Int → Prop} : ∀ (ds : List Int) (outs : List (Option V)), outs.length = ds.length → (∀ (j : Nat) (o : Option V), outs[j]? = some o → ∃ d, ds[j]? = some d ∧ ((P d ∧ o = some (.int d)) ∨ (¬ P d ∧ o = none))) → (∃ d ∈ ds, P d) → ds.Pairwise (· < ·) →
    ∃ w rest, outs.filterMap id = .int w :: rest ∧ w ∈ ds ∧ P w ∧ ∀ n ∈ ds, n < w → ¬ P n
  | [], _, _, _, ⟨_, h, _⟩, _ => by cases h
  | d :: ds, [], h, _, _, _ => by simp at h
  | d :: ds, o :: outs, hl, ho, hex, hp => by
    obtain ⟨d', h1, h2⟩ := ho 0 o rfl
    obtain rfl : d = d' := by simpa using h1
    rcases h2 with ⟨hP, rfl⟩ | ⟨hP, rfl⟩
    · refine ⟨d, outs.filterMap id, rfl, List.mem_cons_self .., hP, fun n hn hlt => ?_⟩
      rcases List.mem_cons.mp hn with z | z
      · omega
      · have := (List.pairwise_cons.mp hp).1 n z
        omega
    · obtain ⟨w, rest, e, hw, hPw, hmin⟩ := first_out ds outs (by simpa using hl) (fun j o h => ho (j + 1) o h) (by
        obtain ⟨x, hx, hPx⟩ := hex
        rcases List.mem_cons.mp hx with z | z
        · exact absurd (z ▸ hPx) hP
        · exact ⟨x, z, hPx⟩) (List.pairwise_cons.mp hp).2
      refine ⟨w, rest, e, List.mem_cons_of_mem _ hw, hPw, fun n hn hlt => ?_⟩
      rcases List.mem_cons.mp hn with z | z
      · rw [z]; exact hP
      · exact hmin n z hlt
abbrev nKeptNet : List Str := ["net", "text", "a", "b", "c", "width", "rows", "right", "number"]
theorem scKeptNet : FnScope nKeptNet ["net", "text"] (defScope sKeptNet) := ⟨rfl, rfl, rfl, by decide +kernel, rfl, by decide +kernel, by decide +kernel⟩
def spKeptNet (C : Addr) : Sp := fun vs H Q _ => ∃ (v : V) (a b c : Int) (g : Int → Int → Nat), vs = [v, .str (mkS (txt a c g))] ∧ NetV C H v a b c ∧ PerN a b c g ∧ ∀ z a' b' c' H', Ex H H' → NetV C H' z a' b' c' → Mn.Canon g a' b' c' → a' * c' ≤ a * c → Q z H'
section
variable {P : Program} {w : World} {K : PySem.W.Frag} {mg : Str → Option Value} {base : Heap} {f fA fN fI fB fC fS fP fD fK C : Addr} {fd fdN : FuncData}
theorem ok_keptNet (F : FD K "kept_net" "kept_net" sKeptNet f fd) (B : Bl mg) (T : NetF K mg C) (FI : FnR P w K mg base C0 3 fI (spNetInit C)) (mk : Mk K C fI) (FN : FnOk P w K mg base C0 1 fN fdN ["self"] (spNetNumbers C)) (bN : L2.Binds K fdN ["self"] []) (PN : Ps K [C] "numbers" fN)
    (FD' : FnR P w K mg base C0 1 fD spDivs) (GD : Gb K mg "divisors" fD) (FK : FnR P w K mg base C0 4 fK (spKept C)) (GK : Gb K mg "is_kept" fK) : FnR P w K mg base C0 5 f (spKeptNet C) := by
  refine rawOf (okOf F scKeptNet (fun vs H Q E h => ?_) fun cdv A outer s H vs Q E hr h => ?_) (F.bindsN fun _ _ _ _ _ _ us hl => match us, hl with | [_, _], _ => rfl)
  · obtain ⟨_, _, _, _, _, rfl, _⟩ := h; rfl
  obtain ⟨v, a, b, c, g, rfl, N, per, hQ⟩ := h
  obtain ⟨ok, l1, l2, l3⟩ := N.ok
  have a0 := ok.a
  have c0 := ok.c
  have N0 := N
  obtain ⟨n, dx, q, rfl, hn, hq, _⟩ := N
  have pa : Mn.Per g a 0 := per _ _ Mn.in_a
  have pb : Mn.Per g b c := per _ _ Mn.in_bc
  refine ⟨_, pss_cons (ps_asg (pe_p (pv 0) PN FN bN (hr.mono (by decide))) (pg_tup rfl (pgs_cons (pg_name (i := 2) scKeptNet.nd rfl (Or.inl rfl)) (pgs_cons (pg_name (i := 3) scKeptNet.nd rfl (Or.inl rfl)) (pgs_cons (pg_name (i := 4) scKeptNet.nd rfl (Or.inl rfl)) pgs_nil)))))
    (pss_cons (ps_set (i := 5) scKeptNet.nd rfl (Or.inl rfl) (pe_ix ix_list (pe_lc (own := [("number", 8)]) (g := gName 8) rfl scKeptNet.nd (pi_list (pe_g FD' GD (hr.mono (by decide)) rfl (pa_cons (pv 2) pa_nil))) (blkOk_by (N := nKeptNet) (sc := defScope sKeptNet) (by decide +kernel))
      (fun _ _ _ _ _ => pg_name (i := 8) scKeptNet.nd rfl (Or.inl rfl)) (fun _ _ _ _ _ => pts_one (pt_val (pe_g FK GK hr rfl (pa_cons (pv 0) (pa_cons (pv 1) (pa_cons (pe_tup (pa_cons (pv 8) (pa_cons pe_int pa_nil))) pa_nil)))))) (fun _ _ _ _ _ => pv 8)) pe_int (fun _ _ => rfl)))
    (pss_cons (ps_for PassesOwn.never rfl (pi_list (pe_g FD' GD (hr.mono (by decide)) rfl (pa_cons (pv 4) pa_nil))) (pg_name (i := 6) scKeptNet.nd rfl (Or.inl rfl))
      (pss_one (ps_for PassesOwn.never rfl (pi_range1 rfl B.range (pa_cons (pv 5) pa_nil)) (pg_name (i := 7) scKeptNet.nd rfl (Or.inl rfl))
        (pss_one (ps_if (pt_val (pe_g FK GK hr rfl (pa_cons (pv 0) (pa_cons (pv 1) (pa_cons (pe_tup (pa_cons (pv 7) (pa_cons (pv 6) pa_nil))) pa_nil)))))
          (pss_one (ps_ret (StX.pe_makeR mk FI hr rfl T.g (passes0 (E := EN)) (pa_cons (pv 5) (pa_cons (pv 7) (pa_cons (pv 6) pa_nil)))))) pss_nil)))))
    (pss_one (ps_ret (pv 0))))), ?_⟩
  show tSeq _ _ _ [some (.ref n), some (.str (mkS (txt a c g))), none, none, none, none, none, none, none] H
  refine ⟨_, rfl, n, C, dx, _, rfl, List.mem_singleton.mpr rfl, hn, _, a, b, c, rfl, N0, fun q' hq' => ?_⟩
  refine ⟨q', _, rfl, SqT.of hq', rfl, _, _, rfl, _, _, rfl, _, _, rfl, rfl, ?_⟩
  simp only [gName, List.set_cons_succ, List.set_cons_zero]
  refine ⟨_, rfl, a, rfl, a0, by omega, fun D1 H1 e1 hD1 => ⟨D1, rfl, ⟨_, SqL.of hD1⟩, fun D hD => ?_⟩⟩
  have mono : MonR (fun (j : Nat) (o : Option V) (_ : Hp) => ∃ d, (divs a)[j]? = some d ∧ ((Mn.Per g d 0 ∧ o = some (.int d)) ∨ (¬ Mn.Per g d 0 ∧ o = none))) := fun _ _ _ _ _ r => r
  refine lc_by (R := fun j o _ => ∃ d, (divs a)[j]? = some d ∧ ((Mn.Per g d 0 ∧ o = some (.int d)) ∨ (¬ Mn.Per g d 0 ∧ o = none))) (walk_lst (SqL.of hD1)) hD (fun i z H2 hi hz p => ?_) (fun H2 p => ?_)
  · obtain ⟨d, rfl, hd⟩ : ∃ d, z = .int d ∧ (divs a)[i]? = some d := by
      rw [List.getElem?_map] at hz
      cases h : (divs a)[i]? with
      | none => rw [h] at hz; cases hz
      | some u => rw [h] at hz; exact ⟨u, (Option.some.inj hz).symm, rfl⟩
    refine ⟨rfl, _, rfl, _, rfl, _, rfl, by show 2 ≤ sizeLine; decide, fun t nt => ?_⟩
    have e2 : Ex H2 (upd H2 t (.tup [.int d, .int 0])) := Ex.upd nt
    refine ⟨_, t, a, b, c, d, 0, g, rfl, N0.ext (Ex.l ((e1.trans p.1).trans e2)), upd_same, per, fun r H3 e3 hr3 => ⟨r, rfl, ?_⟩⟩
    have hil : i < 2 ^ 24 := by
      have hlen : (divs a).length ≤ a.toNat := by
        unfold divs
        refine Nat.le_trans (List.length_filter_le ..) ?_
        simp
      rw [List.length_map] at hi
      omega
    cases r with
    | true => exact iteT ⟨_, rfl, p.yes mono hD (e2.trans e3) ⟨d, hd, .inl ⟨hr3.mp rfl, rfl⟩⟩ hil⟩
    | false => exact iteF (p.no mono (e2.trans e3) ⟨d, hd, .inr ⟨fun h => Bool.noConfusion (hr3.mpr h), rfl⟩⟩)
  · obtain ⟨e2, outs, hl, hDl, ho⟩ := p
    obtain ⟨wd, rest, hw, hwm, hwp, hwmin⟩ := first_out (P := fun d => Mn.Per g d 0) (divs a) outs (by rw [hl, List.length_map]) ho ⟨a, (divs_mem a0).mpr ⟨a0, ⟨1, by omega⟩⟩, pa⟩ (divs_up a)
    rw [hw] at hDl
    obtain ⟨w0, wa⟩ := (divs_mem a0).mp hwm
    have wle := Int.le_of_dvd a0 wa
    refine ⟨D, _, _, _, rfl, rfl, SqL.of hDl, atI_nat (j := 0) rfl, ?_⟩
    simp only [gName, List.set_cons_succ, List.set_cons_zero]
    have e12 := e1.trans e2
    refine ⟨_, rfl, c, rfl, c0, by omega, fun D2 H3 e3 hD3 => ⟨D2, rfl, ⟨_, SqL.of hD3⟩, ?_⟩⟩
    refine for_by (walk_lst (SqL.of hD3)) (fun i σ H' => Ex H3 H' ∧ (∃ X Y, σ = [some (.ref n), some (.str (mkS (txt a c g))), some (.int a), some (.int b), some (.int c), some (.int wd), X, Y, none]) ∧ ∀ (j : Nat) (r : Int), j < i → (divs c)[j]? = some r → ∀ x, 0 ≤ x → x < wd → ¬ Mn.Per g x r)
      ⟨Ex.refl _, ⟨_, _, rfl⟩, fun j r hj => absurd hj (by omega)⟩ (fun i σ H' _ h => h.1) ?_ ?_
    · rintro i z σ H' hi hz ⟨e4, ⟨X, Y, rfl⟩, hno⟩
      obtain ⟨rows, rfl, hd⟩ : ∃ d, z = .int d ∧ (divs c)[i]? = some d := by
        rw [List.getElem?_map] at hz
        cases h : (divs c)[i]? with
        | none => rw [h] at hz; cases hz
        | some u => rw [h] at hz; exact ⟨u, (Option.some.inj hz).symm, rfl⟩
      obtain ⟨rw0, rwc⟩ := (divs_mem c0).mp (List.mem_of_getElem? hd)
      have rle := Int.le_of_dvd c0 rwc
      refine ⟨_, rfl, wd, rfl, by omega, by omega, ?_⟩
      refine for_by walk_range (fun k σ H'' => Ex H' H'' ∧ (∃ Y, σ = [some (.ref n), some (.str (mkS (txt a c g))), some (.int a), some (.int b), some (.int c), some (.int wd), some (.int rows), Y, none]) ∧ ∀ x, 0 ≤ x → x < (k : Int) → ¬ Mn.Per g x rows)
        ⟨Ex.refl _, ⟨_, rfl⟩, fun x h1 h2 => by omega⟩ (fun i σ H' _ h => h.1) ?_ ?_
      · rintro k z σ H'' hk rfl ⟨e5, ⟨Y, rfl⟩, hno2⟩
        refine ⟨_, rfl, _, rfl, _, rfl, _, rfl, by show 2 ≤ sizeLine; decide, fun t nt => ?_⟩
        have e6 : Ex H'' (upd H'' t (.tup [.int (0 + (k : Int)), .int rows])) := Ex.upd nt
        have eAll := ((((e12.trans e3).trans e4).trans e5).trans e6)
        refine ⟨_, t, a, b, c, 0 + (k : Int), rows, g, rfl, N0.ext (Ex.l eAll), upd_same, per, fun r H6 e7 hr6 => ⟨r, rfl, ?_⟩⟩
        cases r with
        | true =>
          refine iteT ⟨_, rfl, _, rfl, _, rfl, ?_⟩
          have can : Mn.Canon g wd (0 + (k : Int)) rows := Mn.canon_of ok per w0 hwp (fun n n0 nw nd => hwmin n ((divs_mem a0).mpr ⟨n0, nd⟩) nw) (by omega) (by omega) rw0 (hr6.mp rfl) fun r r0 rr rd x x0 xw => by
            obtain ⟨j, hj⟩ := List.mem_iff_getElem?.mp ((divs_mem c0).mpr ⟨r0, rd⟩)
            refine hno j r ?_ hj x x0 xw
            rcases Nat.lt_or_ge j i with z | z
            · exact z
            · rcases Nat.lt_or_eq_of_le z with z | z
              · obtain ⟨h1, h2⟩ := List.getElem?_eq_some_iff.mp hd
                obtain ⟨h3, h4⟩ := List.getElem?_eq_some_iff.mp hj
                have := List.pairwise_iff_getElem.mp (divs_up c) i j h1 h3 z
                rw [h2, h4] at this
                omega
              · subst z
                rw [hd] at hj
                have := Option.some.inj hj
                omega
          have sz := Mn.sub_size ok can.ok fun x y h => (can.per x y).mpr (per x y h)
          intro x dx2 nx nd ne
          exact ⟨x, dx2, wd, 0 + (k : Int), rows, rfl, upd_same, can.ok, by omega, fun H7 e8 N' => ⟨rfl, hQ _ _ _ _ H7 ((eAll.trans e7).trans (made_ext nx nd e8)) N' can sz⟩⟩
        | false =>
          refine iteF ⟨(e5.trans e6).trans e7, ⟨_, rfl⟩, fun x h1 h2 hp => ?_⟩
          by_cases hx : x < (k : Int)
          · exact hno2 x h1 hx hp
          · have : x = 0 + (k : Int) := by omega
            rw [this] at hp
            have := hr6.mpr hp
            cases this
      · rintro σ H'' ⟨e5, ⟨Y, rfl⟩, hno2⟩
        refine ⟨e4.trans e5, ⟨_, _, rfl⟩, fun j r hj hjr x h1 h2 => ?_⟩
        by_cases hji : j = i
        · subst hji
          rw [hd] at hjr
          rw [← Option.some.inj hjr]
          exact hno2 x h1 (by omega)
        · exact hno j r (by omega) hjr x h1 h2
    · rintro σ H' ⟨e4, ⟨X, Y, rfl⟩, hno⟩
      obtain ⟨f1, f2, f3⟩ := Mn.row_found w0 hwp pb
      obtain ⟨j, hj⟩ := List.mem_iff_getElem?.mp ((divs_mem c0).mpr ⟨c0, ⟨1, by omega⟩⟩)
      have hjl := (List.getElem?_eq_some_iff.mp hj).1
      exact absurd f3 (hno j c (by rw [List.length_map]; exact hjl) hj _ f1 f2)
end
end Wk
end
section
set_option maxHeartbeats 4000000
/-! least_cell; carpets made. -/
namespace Wk
open PySem PySem.Spec PyProof.Rows L2 Cl TL
/-- the signs of a colouring's cell, one by one -/
def RTxt (a c : Int) (g : Int → Int → Nat) : RT := fun j o _ => j < (a * c).toNat ∧ o = some (.str (mkS [g ((j : Int) % a) ((j : Int) / a)]))
theorem rtxt_mono {a c : Int} {g : Int → Int → Nat} : MonR (RTxt a c g) := fun _ _ _ _ _ r => r
theorem rtxt_list {H1 H : Hp} {D : Addr} {a c : Int} {g : Int → Int → Nat} (p : LcP H1 D (RTxt a c g) (a * c).toNat H) : H D = some (.lst (((txt a c g).map fun n => mkS [n]).map V.str)) := by
  obtain ⟨e, outs, hl, hD, ho⟩ := p
  rw [hD]
  congr 2
  refine outs_some (by simp [hl, txt_len]) fun j o q => ?_
  obtain ⟨h1, h2⟩ := ho j o q
  refine ⟨_, ?_, h2⟩
  unfold txt
  rw [List.getElem?_map, List.getElem?_map, List.getElem?_map, List.getElem?_range h1]
  rfl
theorem join_ok {l : List Nat} (h : l.length ≤ 1000000) : (((l.map fun n => mkS [n])).map (·.length)).sum + (l.map fun n => mkS [n]).length * (("" : Str)).length ≤ 16777216 := by
  have e0 : (("" : Str)).length = 0 := by decide +kernel
  have e1 : ((l.map fun n => mkS [n]).map (·.length)).sum = l.length := by
    induction l with
    | nil => rfl
    | cons n r ih =>
      rw [List.map_cons, List.map_cons, List.sum_cons, ih (by simp at h; omega), mkS_len, List.length_cons, List.length_cons, List.length_nil]
      omega
  rw [e1, e0]
  omega
theorem scLeast : FnScope ["net", "text", "least", "place"] ["net", "text"] (defScope sLeast) := ⟨rfl, rfl, rfl, by decide +kernel, rfl, by decide +kernel, by decide +kernel⟩
def spLeast (C : Addr) : Sp := fun vs H Q _ => ∃ (v : V) (a b c : Int) (g : Int → Int → Nat), vs = [v, .str (mkS (txt a c g))] ∧ NetV C H v a b c ∧ PerN a b c g ∧
  ∀ p z a' b' c' H', Ex H H' → H' p = some (.tup [z, .str (mkS (txt a' c' g))]) → NetV C H' z a' b' c' → Mn.Canon g a' b' c' → a' * c' ≤ a * c → Q (.ref p) H'
section
variable {P : Program} {w : World} {K : PySem.W.Frag} {mg : Str → Option Value} {base : Heap} {f fA fN fI fB fC fS fP fD fK fL C D : Addr} {fd fdN : FuncData}
theorem ok_least (F : FD K "least_cell" "least_cell" sLeast f fd) (FK : FnR P w K mg base C0 5 fK (spKeptNet C)) (GK : Gb K mg "kept_net" fK) (FS : FnR P w K mg base C0 1 fS (spSpots C)) (MS : Ms K [C] "spots" fS) (FC : FnR P w K mg base C0 3 fC (spColAt C)) (GC : Gb K mg "colour_at" fC) :
    FnR P w K mg base C0 6 f (spLeast C) := by
  refine rawOf (okOf F scLeast (fun vs H Q E h => ?_) fun cdv A outer s H vs Q E hr h => ?_) (F.bindsN fun _ _ _ _ _ _ us hl => match us, hl with | [_, _], _ => rfl)
  · obtain ⟨_, _, _, _, _, rfl, _⟩ := h; rfl
  obtain ⟨v, a, b, c, g, rfl, N, per, hQ⟩ := h
  obtain ⟨ok, l1, l2, l3⟩ := N.ok
  refine ⟨_, pss_cons (ps_set (i := 2) scLeast.nd rfl (Or.inl rfl) (pe_g FK GK hr rfl (pa_cons (pv 0) (pa_cons (pv 1) pa_nil))))
    (pss_one (ps_ret (pe_tup (pa_cons (pv 2) (pa_cons (pe_join pe_str (pe_lc (own := [("place", 3)]) (g := gName 3) (tt := tYes) rfl scLeast.nd (pi_list (pe_m0 (pv 2) MS FS (hr.mono (by decide)))) (blkOk_by (N := ["net", "text", "least", "place"]) (sc := defScope sLeast) (by decide +kernel))
      (fun _ _ _ _ _ => pg_name (i := 3) scLeast.nd rfl (Or.inl rfl)) (fun _ _ _ _ _ => pts_nil) (fun _ _ _ _ _ => pe_g FC GC (hr.mono (by decide)) rfl (pa_cons (pv 0) (pa_cons (pv 1) (pa_cons (pv 3) pa_nil)))))) pa_nil))))), ?_⟩
  refine ⟨_, rfl, _, rfl, v, a, b, c, g, rfl, N, per, fun z a' b' c' H1 e1 N1 can hsz => ?_⟩
  have N1' := N1
  obtain ⟨ok1, m1, m2, m3⟩ := N1.ok
  have a1 := ok1.a
  obtain ⟨n, dx, q, rfl, hn, hq, _⟩ := N1
  refine ⟨_, rfl, ⟨_, rfl⟩, _, rfl, n, C, dx, _, rfl, List.mem_singleton.mpr rfl, hn, rfl, _, a', b', c', rfl, N1', fun D ts H2 e2 hD sp => ?_⟩
  refine ⟨D, rfl, ⟨_, SqL.of hD⟩, fun D' hD' => ?_⟩
  have hlen : (ts.map V.ref).length = (a' * c').toNat := by rw [List.length_map, sp.1]
  refine lc_by (R := RTxt a' c' g) (walk_lst (SqL.of hD)) hD' (fun i x H3 hi hx p => ?_) (fun H3 p => ?_)
  · obtain ⟨u, rfl, hu⟩ : ∃ u, x = .ref u ∧ ts[i]? = some u := by
      rw [List.getElem?_map] at hx
      cases h : ts[i]? with
      | none => rw [h] at hx; cases hx
      | some u => rw [h] at hx; exact ⟨u, (Option.some.inj hx).symm, rfl⟩
    rw [hlen] at hi
    refine ⟨rfl, _, rfl, _, rfl, _, rfl, v, u, a, b, c, _, _, g, rfl, N.ext (Ex.l ((e1.trans e2).trans p.1)), p.1 _ _ (sp.2 i u hu), per, fun H4 e4 => ?_⟩
    refine p.yes rtxt_mono hD' e4 ⟨hi, rfl⟩ ?_
    show i < 2 ^ 24
    omega
  · rw [hlen] at p
    refine ⟨_, D', _, rfl, rfl, .inl (SqL.of (rtxt_list p)), join_ok (by rw [txt_len]; omega), ?_⟩
    rw [join_signs]
    refine ⟨by show 2 ≤ sizeLine; decide, fun r nr => ?_⟩
    have e3 : Ex H3 (upd H3 r (.tup [.ref n, .str (mkS (txt a' c' g))])) := Ex.upd nr
    exact hQ r _ a' b' c' _ (((e1.trans e2).trans p.1).trans e3) upd_same (N1'.ext (Ex.l ((e2.trans p.1).trans e3))) can hsz
end
end Wk
end
section
set_option maxHeartbeats 4000000
/-! Carpets: Woven's making, the properties, seen. -/
namespace Wk
open PySem PySem.Spec PyProof.Rows L2 Cl TL
/-- a carpet whose colouring is g, its own net a, b, c -/
def CarV (Cn : Addr) (Cs : List Addr) (H : Hp) (v : V) (g : Int → Int → Nat) (a b c : Int) : Prop := ∃ o C dx n, v = .ref o ∧ C ∈ Cs ∧ H o = some (.ins C dx [("own_net", .ref n), ("own_text", .str (mkS (txt a c g)))]) ∧ NetV Cn H (.ref n) a b c ∧ Mn.Canon g a b c ∧ ∀ x y, Letter (g x y)
theorem CarV.ext {Cn : Addr} {Cs : List Addr} {H H' : Hp} {v : V} {g : Int → Int → Nat} {a b c : Int} (m : CarV Cn Cs H v g a b c) (e : ExtL H H') : CarV Cn Cs H' v g a b c := by
  obtain ⟨o, C, dx, n, h1, h2, h3, h4, h5⟩ := m
  exact ⟨o, C, dx, n, h1, h2, e _ _ h3 (fun _ z => by cases z), h4.ext e, h5⟩
theorem CarV.mono {Cn : Addr} {Cs Ds : List Addr} {H : Hp} {v : V} {g : Int → Int → Nat} {a b c : Int} (m : CarV Cn Cs H v g a b c) (h : ∀ C ∈ Cs, C ∈ Ds) : CarV Cn Ds H v g a b c := by
  obtain ⟨o, C, dx, n, h1, h2, h3⟩ := m
  exact ⟨o, C, dx, n, h1, h _ h2, h3⟩
theorem Mn.Canon.pern {g : Int → Int → Nat} {a b c : Int} (h : _root_.Mn.Canon g a b c) : PerN a b c g := fun u v q => (h.per u v).mp q
/-- the classes of carpets -/
structure CarF (K : PySem.W.Frag) (Cs : List Addr) : Prop where
  kl : ∀ C ∈ Cs, Kl K C
  nn : ∀ C ∈ Cs, NoAttr K C "own_net"
  nt : ∀ C ∈ Cs, NoAttr K C "own_text"
theorem scWovInit : FnScope ["self", "net", "text"] ["self", "net", "text"] (defScope (sWov 0)) := ⟨rfl, rfl, rfl, by decide +kernel, rfl, by decide +kernel, by decide +kernel⟩
def spWovInit (Cn C : Addr) : Sp := fun vs H Q _ => ∃ (o dx : Addr) (v : V) (a b c : Int) (g : Int → Int → Nat), vs = [.ref o, v, .str (mkS (txt a c g))] ∧ H o = some (.ins C dx []) ∧ NetV Cn H v a b c ∧ PerN a b c g ∧ (∀ x y, Letter (g x y)) ∧
  ∀ H' a' b' c', ExB o H H' → CarV Cn [C] H' (.ref o) g a' b' c' → a' * c' ≤ a * c → Q .non H'
theorem scCarNet : FnScope ["self"] ["self"] (defScope (sCar 3)) := ⟨rfl, rfl, rfl, by decide +kernel, rfl, by decide +kernel, by decide +kernel⟩
def spCarNet (Cn : Addr) (Cs : List Addr) : Sp := fun vs H Q _ => ∃ (v : V) (g : Int → Int → Nat) (a b c : Int), vs = [v] ∧ CarV Cn Cs H v g a b c ∧ ∀ n, NetV Cn H n a b c → Q n H
theorem scCarText : FnScope ["self"] ["self"] (defScope (sCar 4)) := ⟨rfl, rfl, rfl, by decide +kernel, rfl, by decide +kernel, by decide +kernel⟩
def spCarText (Cn : Addr) (Cs : List Addr) : Sp := fun vs H Q _ => ∃ (v : V) (g : Int → Int → Nat) (a b c : Int), vs = [v] ∧ CarV Cn Cs H v g a b c ∧ Q (.str (mkS (txt a c g))) H
theorem scSeen : FnScope ["self", "place"] ["self", "place"] (defScope (sCar 7)) := ⟨rfl, rfl, rfl, by decide +kernel, rfl, by decide +kernel, by decide +kernel⟩
def spSeen (Cn : Addr) (Cs : List Addr) : Sp := fun vs H Q _ => ∃ (v : V) (t : Addr) (g : Int → Int → Nat) (a b c x y : Int), vs = [v, .ref t] ∧ CarV Cn Cs H v g a b c ∧ H t = some (.tup [.int x, .int y]) ∧ ∀ H', Ex H H' → Q (.str (mkS [g x y])) H'
section
variable {P : Program} {w : World} {K : PySem.W.Frag} {mg : Str → Option Value} {base : Heap} {f fA fN fI fB fC fS fP fD fK fL Cn C D : Addr} {Cs : List Addr} {fd fdN : FuncData}
theorem ok_wovInit (F : FD K "__init__" "Woven.__init__" (sWov 0) f fd) (T : CarF K Cs) (hC : C ∈ Cs) (FL : FnR P w K mg base C0 6 fL (spLeast Cn)) (GL : Gb K mg "least_cell" fL) : FnR P w K mg base C0 7 f (spWovInit Cn C) := by
  refine rawOf (okOf F scWovInit (fun vs H Q E h => ?_) fun cdv A outer s H vs Q E hr h => ?_) (F.bindsN fun _ _ _ _ _ _ us hl => match us, hl with | [_, _, _], _ => rfl)
  · obtain ⟨_, _, _, _, _, _, _, rfl, _⟩ := h; rfl
  obtain ⟨o, dx, v, a, b, c, g, rfl, ho, N, per, hL, hQ⟩ := h
  refine ⟨_, pss_one (ps_asg (pe_g FL GL hr rfl (pa_cons (pv 1) (pa_cons (pv 2) pa_nil))) (pg_tup rfl (pgs_cons (pg_fld (pv 0)) (pgs_cons (pg_fld (pv 0)) pgs_nil)))), ?_⟩
  refine ⟨_, rfl, _, rfl, v, a, b, c, g, rfl, N, per, fun p z a' b' c' H1 e1 hp N1 can hsz => ?_⟩
  obtain ⟨n, dn, q, rfl, hn, hq, ok1, hz1⟩ := N1
  refine ⟨p, _, rfl, SqT.of hp, rfl, _, _, rfl, _, rfl, o, C, dx, _, rfl, e1 _ _ ho, (T.kl C hC).cl, T.nn C hC, by decide, ?_⟩
  refine ⟨_, _, rfl, _, rfl, o, C, dx, _, rfl, upd_same, (T.kl C hC).cl, T.nt C hC, by show 1 < 1000; decide, rfl, ?_⟩
  rw [upd_upd]
  have ho1 := e1 _ _ ho
  have n1 : n ≠ o := fun z => by
    rw [z, ho1] at hn
    injection hn with hn
    injection hn with _ _ hn
    cases hn
  have n2 : q ≠ o := fun z => by rw [z, ho1] at hq; cases hq
  refine hQ _ a' b' c' ((ExB.of e1).trans ExB.put) ⟨o, C, dx, n, rfl, List.mem_singleton.mpr rfl, upd_same, ⟨n, dn, q, rfl, ?_, ?_, ok1, hz1⟩, can, hL⟩ hsz
  · rw [upd_ne n1]; exact hn
  · rw [upd_ne n2]; exact hq
theorem ok_carNet (F : FD K "net" "Carpet.net" (sCar 3) f fd) (T : CarF K Cs) : FnOk P w K mg base C0 1 f fd ["self"] (spCarNet Cn Cs) := by
  refine okOf F scCarNet (fun vs H Q E h => ?_) fun cdv A outer s H vs Q E hr h => ?_
  · obtain ⟨_, _, _, _, _, rfl, _⟩ := h; rfl
  obtain ⟨v, g, a, b, c, rfl, ⟨o, C, dx, n, rfl, hC, ho, N, _⟩, hQ⟩ := h
  exact ⟨_, pss_one (ps_ret (pe_fld (pv 0) rfl)), _, rfl, o, C, dx, _, _, rfl, ho, (T.kl C hC).cl, T.nn C hC, rfl, hQ _ N⟩
theorem ok_carText (F : FD K "text" "Carpet.text" (sCar 4) f fd) (T : CarF K Cs) : FnOk P w K mg base C0 1 f fd ["self"] (spCarText Cn Cs) := by
  refine okOf F scCarText (fun vs H Q E h => ?_) fun cdv A outer s H vs Q E hr h => ?_
  · obtain ⟨_, _, _, _, _, rfl, _⟩ := h; rfl
  obtain ⟨v, g, a, b, c, rfl, ⟨o, C, dx, n, rfl, hC, ho, N, _⟩, hQ⟩ := h
  exact ⟨_, pss_one (ps_ret (pe_fld (pv 0) rfl)), _, rfl, o, C, dx, _, _, rfl, ho, (T.kl C hC).cl, T.nt C hC, rfl, hQ⟩
theorem ok_seen (F : FD K "seen" "Carpet.seen" (sCar 7) f fd) (T : CarF K Cs) (FC : FnR P w K mg base C0 3 fC (spColAt Cn)) (GC : Gb K mg "colour_at" fC) : FnR P w K mg base C0 4 f (spSeen Cn Cs) := by
  refine rawOf (okOf F scSeen (fun vs H Q E h => ?_) fun cdv A outer s H vs Q E hr h => ?_) (F.bindsN fun _ _ _ _ _ _ us hl => match us, hl with | [_, _], _ => rfl)
  · obtain ⟨_, _, _, _, _, _, _, _, rfl, _⟩ := h; rfl
  obtain ⟨v, t, g, a, b, c, x, y, rfl, ⟨o, C, dx, n, rfl, hC, ho, N, can, _⟩, ht, hQ⟩ := h
  refine ⟨_, pss_one (ps_ret (pe_g FC GC hr rfl (pa_cons (pe_fld (pv 0) rfl) (pa_cons (pe_fld (pv 0) rfl) (pa_cons (pv 1) pa_nil))))), ?_⟩
  refine ⟨_, rfl, o, C, dx, _, _, rfl, ho, (T.kl C hC).cl, T.nn C hC, rfl, _, rfl, o, C, dx, _, _, rfl, ho, (T.kl C hC).cl, T.nt C hC, rfl, _, rfl, ?_⟩
  exact ⟨_, t, a, b, c, x, y, g, rfl, N, ht, Mn.Canon.pern can, hQ⟩
end
end Wk
end
section
set_option maxHeartbeats 4000000
/-! Carpets: colours, on, eq. -/
namespace Wk
open PySem PySem.Spec PyProof.Rows L2 Cl TL
theorem outs_if {α : Type} {outs : List (Option V)} {l : List α} {p : α → Bool} {f : α → V} (hl : outs.length = l.length) (h : ∀ (j : Nat) (o : Option V), outs[j]? = some o → ∃ n, l[j]? = some n ∧ o = if p n = true then some (f n) else none) :
    outs.filterMap id = (l.filter p).map f := by
  have e : outs = l.map fun n => if p n = true then some (f n) else none := by
    refine List.ext_getElem? fun j => ?_
    by_cases hj : j < outs.length
    · obtain ⟨y, h1, h2⟩ := h j outs[j] (by simp [hj])
      rw [List.getElem?_eq_getElem hj, h2, List.getElem?_map, h1]
      rfl
    · rw [List.getElem?_eq_none (by omega), List.getElem?_eq_none (by rw [List.length_map]; omega)]
  rw [e]
  clear e h hl
  induction l with
  | nil => rfl
  | cons n r ih =>
    by_cases hp : p n = true
    · rw [List.map_cons, if_pos hp, List.filter_cons_of_pos hp, List.map_cons, ← ih]; rfl
    · rw [List.map_cons, if_neg hp, List.filter_cons_of_neg hp, ← ih]; rfl
theorem let_mk : letS = mkS (List.range' 97 26) := ext_tl (by rw [show tl letS = List.range' 97 26 from let_list]; exact (mkS_list _).symm)
/-- the letters of a text, in their order -/
def cols (t : List Nat) : List Nat := (List.range' 97 26).filter fun n => decide (n ∈ t)
theorem scCols : FnScope ["self", "colour"] ["self"] (defScope (sCar 6)) := ⟨rfl, rfl, rfl, by decide +kernel, rfl, by decide +kernel, by decide +kernel⟩
def spCols (Cn : Addr) (Cs : List Addr) : Sp := fun vs H Q _ => ∃ (v : V) (g : Int → Int → Nat) (a b c : Int), vs = [v] ∧ CarV Cn Cs H v g a b c ∧ ∀ H', Ex H H' → Q (.str (mkS (cols (txt a c g)))) H'
structure MostF (mg : Str → Option Value) : Prop where
  g : ∃ t, mg "MOST_PLACES" = some (.int 2000 t)
theorem scOn : FnScope ["net", "text"] ["net", "text"] (defScope (sCar 1)) := ⟨rfl, rfl, rfl, by decide +kernel, rfl, by decide +kernel, by decide +kernel⟩
def spOn (Cn C : Addr) : Sp := fun vs H Q _ => ∃ (v : V) (a b c : Int) (g : Int → Int → Nat), vs = [v, .str (mkS (txt a c g))] ∧ NetV Cn H v a b c ∧ PerN a b c g ∧ (∀ x y, Letter (g x y)) ∧ a * c ≤ 2000 ∧
  ∀ z H' a' b' c', Ex H H' → CarV Cn [C] H' z g a' b' c' → a' * c' ≤ a * c → Q z H'
theorem scCarEq : FnScope ["self", "other"] ["self", "other"] (defScope (sCar 11)) := ⟨rfl, rfl, rfl, by decide +kernel, rfl, by decide +kernel, by decide +kernel⟩
def spCarEq (Cn : Addr) (Cs : List Addr) : Sp := fun vs H Q _ => ∃ (v u : V) (g g' : Int → Int → Nat) (a b c a' b' c' : Int), vs = [v, u] ∧ CarV Cn Cs H v g a b c ∧ CarV Cn Cs H u g' a' b' c' ∧ (∀ x y, g x y = g' x y) ∧ Q (.bl true) H
/-- an operator of one class by its def -/
structure Op1F (K : PySem.W.Frag) (C : Addr) (nm : Str) (f : Addr) : Prop where
  hc : PySem.W.selfFirst K C = true
  hs : PySem.W.findIn K (.ref C) nm = some (some (.ref f))
  hf : PySem.W.isFn K (.ref f) = true
section
variable {P : Program} {w : World} {K : PySem.W.Frag} {mg : Str → Option Value} {base : Heap} {f fA fN fI fB fC fS fP fD fK fL Cn C D : Addr} {Cs : List Addr} {fd fdN : FuncData}
theorem ok_cols (F : FD K "colours" "Carpet.colours" (sCar 6) f fd) (T : CarF K Cs) (L : LetF mg) : FnOk P w K mg base C0 1 f fd ["self"] (spCols Cn Cs) := by
  obtain ⟨tk, gL⟩ := L.g
  refine okOf F scCols (fun vs H Q E h => ?_) fun cdv A outer s H vs Q E hr h => ?_
  · obtain ⟨_, _, _, _, _, rfl, _⟩ := h; rfl
  obtain ⟨v, g, a, b, c, rfl, ⟨o, C, dx, n, rfl, hC, ho, N, _⟩, hQ⟩ := h
  refine ⟨_, pss_one (ps_ret (pe_join pe_str (pe_lc (own := [("colour", 1)]) (g := gName 1) rfl scCols.nd (pi_str (pe_glob (v := .str letS) rfl gL ⟨_, rfl⟩)) (blkOk_by (N := ["self", "colour"]) (sc := defScope (sCar 6)) (by decide +kernel))
      (fun _ _ _ _ _ => pg_name (i := 1) scCols.nd rfl (Or.inl rfl)) (fun _ _ _ _ _ => pts_one (pt_cmpR op_in_sign (pv 1) (show PE _ _ (tFld K (tVar 0) "own_text") from pe_fld (pv 0) rfl) rfl)) (fun _ _ _ _ _ => pv 1)))), ?_⟩
  refine ⟨⟨_, rfl⟩, _, rfl, fun D hD => ?_⟩
  have wk := walk_str (l := List.range' 97 26) (H1 := H)
  rw [← let_mk] at wk
  refine lc_by (R := fun j o _ => ∃ n, (List.range' 97 26)[j]? = some n ∧ o = if (decide (n ∈ txt a c g)) = true then some (.str (mkS [n])) else none) wk hD (fun i x H1 hi hx p => ?_) (fun H1 p => ?_)
  · obtain ⟨n', hn', rfl⟩ := hx
    refine ⟨rfl, _, rfl, _, rfl, o, C, dx, _, _, rfl, p.1 _ _ ho, (T.kl C hC).cl, T.nt C hC, rfl, ?_⟩
    refine ⟨n', _, rfl, rfl, _, rfl, ?_⟩
    rw [mkS_list]
    have hmon : MonR (fun j o (_ : Hp) => ∃ n, (List.range' 97 26)[j]? = some n ∧ o = if (decide (n ∈ txt a c g)) = true then some (V.str (mkS [n])) else none) := fun _ _ _ _ _ r => r
    refine ifD (fun h => ?_) fun h => ?_
    · exact ⟨_, rfl, p.yes hmon hD (Ex.refl _) ⟨n', hn', by rw [if_pos (decide_eq_true h)]⟩ (Nat.lt_of_lt_of_le hi (by decide))⟩
    · exact p.no hmon (Ex.refl _) ⟨n', hn', by rw [if_neg (by rw [decide_eq_false h]; decide)]⟩
  · obtain ⟨e, outs, hl, hDl, ho'⟩ := p
    rw [outs_if (f := fun n => V.str (mkS [n])) hl ho'] at hDl
    have hlen : (cols (txt a c g)).length ≤ 26 := Nat.le_trans (List.length_filter_le ..) (by simp)
    have e2 : (List.filter (fun n => decide (n ∈ txt a c g)) (List.range' 97 26)).map (fun n => V.str (mkS [n])) = ((cols (txt a c g)).map fun n => mkS [n]).map V.str := by
      rw [List.map_map]; rfl
    rw [e2] at hDl
    refine ⟨_, D, _, rfl, rfl, .inl (SqL.of hDl), join_ok (by omega), ?_⟩
    rw [join_signs]
    exact hQ _ e
theorem ok_on (F : FD K "on" "Carpet.on" (sCar 1) f fd) (B : Bl mg) (L : LetF mg) (MF : MostF mg) (FN : FnOk P w K mg base C0 1 fN fdN ["self"] (spNetSize Cn)) (bN : L2.Binds K fdN ["self"] []) (PN : Ps K [Cn] "size" fN)
    (FR : FnR P w K mg base C0 1 fA spIsRow) (GR : Gb K mg "is_row" fA) (FW : FnR P w K mg base C0 7 fI (spWovInit Cn C)) (mk : Mk K C fI) (gW : mg "Woven" = some (.ref C)) : FnR P w K mg base C0 9 f (spOn Cn C) := by
  obtain ⟨tk, gL⟩ := L.g
  obtain ⟨tm, gM⟩ := MF.g
  refine rawOf (okOf F scOn (fun vs H Q E h => ?_) fun cdv A outer s H vs Q E hr h => ?_) (F.bindsN fun _ _ _ _ _ _ us hl => match us, hl with | [_, _], _ => rfl)
  · obtain ⟨_, _, _, _, _, rfl, _⟩ := h; rfl
  obtain ⟨v, a, b, c, g, rfl, N, per, hL, hsz, hQ⟩ := h
  have N0 := N
  obtain ⟨ok, l1, l2, l3⟩ := N.ok
  have ac : 0 < a * c := Int.mul_pos ok.a ok.c
  obtain ⟨n, dn, q, rfl, hn, hq, _⟩ := N
  refine ⟨_, pss_cons (ps_if (pt_cmpR op_gt (pe_p (pv 0) PN FN bN (hr.mono (by decide))) (pe_glob (v := .int 2000) rfl gM ⟨_, rfl⟩) (nomark _)) pss_never pss_nil)
    (pss_cons (ps_if (PW.pt (pw_or (pt_not (pt_val (pe_g FR GR (hr.mono (by decide)) rfl (pa_cons (pv 1) (pa_cons (pe_glob (v := .str letS) rfl gL ⟨_, rfl⟩) (pa_cons (pe_glob (v := .int 2000) rfl gM ⟨_, rfl⟩) pa_nil)))))) (pw_or1 (pt_cmpR op_ne (pe_callB call_len_str rfl B.len PySem.boot_len (pa_cons (pv 1) pa_nil)) (pe_p (pv 0) PN FN bN (hr.mono (by decide))) (nomark _))))) pss_never pss_nil)
    (pss_one (ps_ret (StX.pe_makeR mk FW hr rfl gW (passes0 (E := EN)) (pa_cons (pv 0) (pa_cons (pv 1) pa_nil)))))), ?_⟩
  refine ⟨_, rfl, n, Cn, dn, _, rfl, List.mem_singleton.mpr rfl, hn, _, a, b, c, rfl, N0, _, _, rfl, rfl, _, rfl, ?_⟩
  rw [decide_eq_false (show ¬ a * c > 2000 by omega)]
  refine iteF ?_
  have hlen := txt_len a c g
  refine ⟨_, rfl, _, 2000, rfl, by omega, by omega, by omega, ?_, fun H1 e1 => ?_⟩
  · intro m hm
    obtain ⟨i, _, rfl⟩ := List.mem_map.mp hm
    exact hL _ _
  refine ⟨_, rfl, iteF ⟨_, rfl, _, rfl, by rw [mkS_len]; show _ ≤ 2 ^ 24; omega, ?_⟩⟩
  refine ⟨_, rfl, n, Cn, dn, _, rfl, List.mem_singleton.mpr rfl, e1 _ _ hn, _, a, b, c, rfl, N0.ext (Ex.l e1), rfl, _, rfl, ?_⟩
  rw [mkS_len, hlen, Int.toNat_of_nonneg (by omega), decide_eq_true rfl]
  refine iteF ?_
  refine ⟨_, rfl, _, rfl, fun x dx nx nd ne => ?_⟩
  have e2 : Ex H1 (upd (upd H1 dx (.own x)) x (.ins C dx [])) := made_ext nx nd (fun b u _ h => h)
  refine ⟨x, dx, _, a, b, c, g, rfl, upd_same, (N0.ext (Ex.l (e1.trans e2))), per, hL, fun H3 a' b' c' e3 cv hz => ⟨rfl, ?_⟩⟩
  exact hQ _ H3 a' b' c' (e1.trans (made_ext nx nd e3)) cv hz
theorem ok_carEq (F : FD K "__eq__" "Carpet.__eq__" (sCar 11) f fd) (B : Bl mg) (T : CarF K Cs) (gC : mg "Carpet" = some (.ref C)) (hs : ∀ D ∈ Cs, PySem.W.kitOne K (.ref D) (.ref C) = some true) (FE : FnR P w K mg base C0 1 fA (spNetEq Cn)) (OE : Op1F K Cn "__eq__" fA) :
    FnR P w K mg base C0 2 f (spCarEq Cn Cs) := by
  refine rawOf (okOf F scCarEq (fun vs H Q E h => ?_) fun cdv A outer s H vs Q E hr h => ?_) (F.bindsN fun _ _ _ _ _ _ us hl => match us, hl with | [_, _], _ => rfl)
  · obtain ⟨_, _, _, _, _, _, _, _, _, _, rfl, _⟩ := h; rfl
  obtain ⟨v, u, g, g', a, b, c, a', b', c', rfl, ⟨o, C1, dx, n, rfl, hC, ho, N, can, hL⟩, ⟨o', C1', dx', n', rfl, hC', ho', N', can', hL'⟩, hgg, hQ⟩ := h
  have ce := funext fun x => funext fun y => hgg x y
  subst ce
  obtain ⟨rfl, rfl, rfl⟩ := _root_.Mn.canon_uniq can can'
  have M0 := N
  have M1 := N'
  obtain ⟨n1, dn1, q1, z1, hn1, _⟩ := M0
  obtain ⟨n2, dn2, q2, z2, hn2, _⟩ := M1
  cases z1
  cases z2
  refine ⟨_, pss_one (ps_ret (pe_and (pe_callB call_isi rfl B.isinstance bIsi (pa_cons (pv 1) (pa_cons (pe_glob (v := .ref C) rfl gC rfl) pa_nil))) (pe_and (pe_cmpR (op_ownEq FE hr OE.hs OE.hf) (pe_fld (pv 0) rfl) (pe_fld (pv 1) rfl) (nomark _)) (pe_one (pe_cmpR op_eq (pe_fld (pv 0) rfl) (pe_fld (pv 1) rfl) (nomark _)))))), ?_⟩
  refine ⟨_, rfl, _, _, _, _, true, rfl, .own C, (T.kl C1' hC').ty ho', hs _ hC', true, rfl, ?_⟩
  refine iteT ⟨_, rfl, o, C1, dx, _, _, rfl, ho, (T.kl C1 hC).cl, T.nn C1 hC, rfl, _, rfl, o', C1', dx', _, _, rfl, ho', (T.kl C1' hC').cl, T.nn C1' hC', rfl, ?_⟩
  refine ⟨n, n', dn1, dn2, _, _, rfl, rfl, hn1, hn2, _, _, a, b, c, a, b, c, rfl, N, N', true, ?_, ?_⟩
  · simp
  refine iteT ⟨_, rfl, o, C1, dx, _, _, rfl, ho, (T.kl C1 hC).cl, T.nt C1 hC, rfl, _, rfl, o', C1', dx', _, _, rfl, ho', (T.kl C1' hC').cl, T.nt C1' hC', rfl, rfl, ?_⟩
  rw [decide_eq_true rfl]
  exact hQ
end
end Wk
end
section
set_option maxHeartbeats 4000000
/-! Carpet * motion. -/
namespace Wk
open PySem PySem.Spec PyProof.Rows L2 Cl TL
/-- the motion back -/
structure BackOf (p q r s p' q' r' s' : Int) : Prop where
  pp : p' * p + q' * r = 1
  pq : p' * q + q' * s = 0
  rp : r' * p + s' * r = 0
  rq : r' * q + s' * s = 1
theorem mats_back {k : Str} {p q r s : Int} (h : mats.lookup k = some (p, q, r, s)) : ∃ p' q' r' s', mats.lookup (backK k) = some (p', q', r', s') ∧ BackOf p q r s p' q' r' s' := by
  have hm := PySem.mem_of_lookup h
  have all : ∀ m ∈ mats, match mats.lookup (backK m.1) with
    | some b => decide (b.1 * m.2.1 + b.2.1 * m.2.2.2.1 = 1 ∧ b.1 * m.2.2.1 + b.2.1 * m.2.2.2.2 = 0 ∧ b.2.2.1 * m.2.1 + b.2.2.2 * m.2.2.2.1 = 0 ∧ b.2.2.1 * m.2.2.1 + b.2.2.2 * m.2.2.2.2 = 1) = true
    | none => false = true := by
    intro m hm
    have : ∀ m ∈ mats, (match mats.lookup (backK m.1) with
      | some b => decide (b.1 * m.2.1 + b.2.1 * m.2.2.2.1 = 1 ∧ b.1 * m.2.2.1 + b.2.1 * m.2.2.2.2 = 0 ∧ b.2.2.1 * m.2.1 + b.2.2.2 * m.2.2.2.1 = 0 ∧ b.2.2.1 * m.2.2.1 + b.2.2.2 * m.2.2.2.2 = 1)
      | none => false) = true := by decide +kernel
    have := this m hm
    cases h : mats.lookup (backK m.1) with
    | none => rw [h] at this; exact this
    | some b => rw [h] at this; exact this
  have h1 := all _ hm
  dsimp only at h1
  cases hb : mats.lookup (backK k) with
  | none => rw [hb] at h1; exact Bool.noConfusion h1
  | some b =>
    rw [hb] at h1
    have h1 := of_decide_eq_true h1
    exact ⟨b.1, b.2.1, b.2.2.1, b.2.2.2, rfl, h1.1, h1.2.1, h1.2.2.1, h1.2.2.2⟩
/-- an operator of two classes by the def of the first -/
structure Op2F (K : PySem.W.Frag) (C D : Addr) (nm nmr : Str) (f : Addr) : Prop where
  ne : C ≠ D
  hc : PySem.W.selfFirst K C = true
  hd : PySem.W.selfFirst K D = true
  hs : PySem.W.findIn K (.ref C) nm = some (some (.ref f))
  hf : PySem.W.isFn K (.ref f) = true
  hr : PySem.W.findIn K (.ref C) nmr = some none
  hs2 : ∃ g : Addr, PySem.W.findIn K (.ref D) nm = some (some (.ref g))
  hr2 : PySem.W.findIn K (.ref D) nmr = some none
  sub : PySem.W.subIn K (.ref D) (.ref C) = some false
theorem op2 {X : Cx} {k : Nat} {C D f : Addr} {sp : Sp} (F : FnR X.prog X.w X.K X.mg X.base C0 k f sp) (hr : Room k X.A) (O : Op2F X.K C D (PySem.dunder (Operator.info .Mult).2) (PySem.dunderR (Operator.info .Mult).2) f) : OpR X (binaryOp .Mult) (rOwnB C D sp id) := by
  obtain ⟨g, hg⟩ := O.hs2
  exact op_own2 (rc := none) (rc2 := none) F hr O.ne O.hc O.hd O.hs O.hf O.hr hg O.hr2 O.sub
/-- the colouring moved: by the motion back -/
def movG (g : Int → Int → Nat) (p q r s sx sy : Int) : Int → Int → Nat := fun x y => g (p * x + q * y + -(p * sx + q * sy)) (r * x + s * y + -(r * sx + s * sy))
theorem mov_per {g : Int → Int → Nat} {a b c a' b' c' p q r s p' q' r' s' sx sy : Int} (per : PerN a b c g) (B : BackOf p q r s p' q' r' s') (hin : ∀ u v, Mn.In a' b' c' u v ↔ ∃ u0 v0, Mn.In a b c u0 v0 ∧ u = p * u0 + q * v0 ∧ v = r * u0 + s * v0) : PerN a' b' c' (movG g p' q' r' s' sx sy) := by
  intro u v h
  obtain ⟨u0, v0, h0, rfl, rfl⟩ := (hin u v).mp h
  intro x y
  have hp := per _ _ h0
  unfold movG
  have e1 : p' * (x + (p * u0 + q * v0)) + q' * (y + (r * u0 + s * v0)) + -(p' * sx + q' * sy) = p' * x + q' * y + -(p' * sx + q' * sy) + u0 := by have := B.pp; have := B.pq; grind
  have e2 : r' * (x + (p * u0 + q * v0)) + s' * (y + (r * u0 + s * v0)) + -(r' * sx + s' * sy) = r' * x + s' * y + -(r' * sx + s' * sy) + v0 := by have := B.rp; have := B.rq; grind
  rw [e1, e2]
  exact hp _ _
theorem scCarMul : FnScope ["self", "motion", "net", "back", "place"] ["self", "motion"] (defScope (sCar 15)) := ⟨rfl, rfl, rfl, by decide +kernel, rfl, by decide +kernel, by decide +kernel⟩
def spCarMul (Cn M C : Addr) (Cs : List Addr) : Sp := fun vs H Q _ => ∃ (v m : V) (g : Int → Int → Nat) (a b c sx sy p q r s p' q' r' s' : Int) (k : Str), vs = [v, m] ∧ CarV Cn Cs H v g a b c ∧ MotV M H m k sx sy ∧ mats.lookup k = some (p, q, r, s) ∧ mats.lookup (backK k) = some (p', q', r', s') ∧ BackOf p q r s p' q' r' s' ∧
  ∀ z H' a' b' c', Ex H H' → CarV Cn [C] H' z (movG g p' q' r' s' sx sy) a' b' c' → a' * c' ≤ a * c → Q z H'
section
variable {P : Program} {w : World} {K : PySem.W.Frag} {mg : Str → Option Value} {base : Heap} {f fA fN fI fB fC fS fP fD fK fL Cn C D M : Addr} {Cs : List Addr} {fd fdN : FuncData}
theorem ok_carMul (F : FD K "__mul__" "Carpet.__mul__" (sCar 15) f fd) (T : CarF K Cs) (FM : FnR P w K mg base C0 6 fA (spNetMul Cn M)) (OM : Op2F K Cn M (PySem.dunder (Operator.info .Mult).2) (PySem.dunderR (Operator.info .Mult).2) fA)
    (FI : FnR P w K mg base C0 6 fI (spInv M)) (hI : PySem.W.findIn K (.ref M) "__invert__" = some (some (.ref fI))) (hIf : PySem.W.isFn K (.ref fI) = true)
    (FS : FnR P w K mg base C0 1 fS (spSpots Cn)) (MS : Ms K [Cn] "spots" fS) (FP : FnR P w K mg base C0 2 fP (spImage M)) (MP : Ms K [M] "image" fP) (FE : FnR P w K mg base C0 4 fC (spSeen Cn Cs)) (ME : Ms K Cs "seen" fC)
    (FW : FnR P w K mg base C0 7 fL (spWovInit Cn C)) (mk : Mk K C fL) (gW : mg "Woven" = some (.ref C)) : FnR P w K mg base C0 9 f (spCarMul Cn M C Cs) := by
  refine rawOf (okOf F scCarMul (fun vs H Q E h => ?_) fun cdv A outer s H vs Q E hr h => ?_) (F.bindsN fun _ _ _ _ _ _ us hl => match us, hl with | [_, _], _ => rfl)
  · obtain ⟨_, _, _, _, _, _, _, _, _, _, _, _, _, _, _, _, _, rfl, _⟩ := h; rfl
  obtain ⟨v, m, g, a, b, c, sx, sy, p, q, r, s', p', q', r', s'', k, rfl, cv, hm, hk, hkb, bk, hQ⟩ := h
  have cv0 := cv
  obtain ⟨o, C1, dx, n, rfl, hC, ho, N, can, hL⟩ := cv
  have per := Mn.Canon.pern can
  have N0 := N
  obtain ⟨n', dn, t, z1, hn, ht, ok, hz1⟩ := N
  cases z1
  have hm0 := hm
  obtain ⟨om, dm, tm, rfl, hom, htm⟩ := hm
  refine ⟨_, pss_cons (ps_asg (pe_tup (pa_cons (pe_op (op2 FM (hr.mono (by decide)) OM) (pe_fld (pv 0) rfl) (pv 1)) (pa_cons (pe_un (un_own FI (hr.mono (by decide)) hI hIf) (pv 1)) pa_nil))) (pg_tup rfl (pgs_cons (pg_name (i := 2) scCarMul.nd rfl (Or.inl rfl)) (pgs_cons (pg_name (i := 3) scCarMul.nd rfl (Or.inr rfl)) pgs_nil))))
    (pss_one (ps_ret (StX.pe_makeR mk FW hr rfl gW (passes0 (E := EN)) (pa_cons (pv 2) (pa_cons (pe_join pe_str (pe_lc (own := [("place", 4)]) (g := gName 4) (tt := tYes) rfl scCarMul.nd (pi_list (pe_m0 (pv 2) MS FS (hr.mono (by decide)))) (blkOk_by (N := ["self", "motion", "net", "back", "place"]) (sc := defScope (sCar 15)) (by decide +kernel))
      (fun _ _ _ _ _ => pg_name (i := 4) scCarMul.nd rfl (Or.inl rfl)) (fun _ _ _ _ _ => pts_nil) (fun _ _ _ _ _ => pe_m (pv 0) ME FE (hr.mono (by decide)) (pa_cons (pe_m (pv 3) MP FP (hr.mono (by decide)) (pa_cons (pv 4) pa_nil)) pa_nil)))) pa_nil))))), ?_⟩
  refine ⟨_, rfl, o, C1, dx, _, _, rfl, ho, (T.kl C1 hC).cl, T.nn C1 hC, rfl, _, rfl, ?_⟩
  refine ⟨n, om, dn, dm, _, _, rfl, rfl, hn, hom, _, _, a, b, c, p, q, r, s', sx, sy, k, rfl, N0, hm0, hk, fun z a' b' c' H1 e1 N1 hin hsz => ?_⟩
  refine ⟨_, rfl, om, dm, _, rfl, e1 _ _ hom, _, k, p', q', r', s'', sx, sy, rfl, hm0.ext e1, hkb, by rw [hk]; rfl, fun zb H2 e2 hb => ?_⟩
  refine ⟨by show 2 ≤ sizeLine; decide, fun tt nt => ⟨tt, _, rfl, SqT.of upd_same, rfl, _, _, rfl, _, _, rfl, rfl, ?_⟩⟩
  have e2' := e2.trans (Ex.upd (o := .tup [id z, zb]) nt)
  have hb := hb.ext (Ex.upd (o := .tup [id z, zb]) nt)
  have N2 := N1.ext (Ex.l e2')
  generalize hH2 : upd H2 tt (.tup [id z, zb]) = H2' at *
  clear e2
  have e2 := e2'
  refine ⟨_, rfl, ?_⟩
  obtain ⟨ok1, m1, m2, m3⟩ := N2.ok
  have a1 := ok1.a
  have N2' := N2
  obtain ⟨nz, dz, qz, rfl, hnz, hqz, _⟩ := N2'
  have hb0 := hb
  obtain ⟨ob, db, tb, rfl, hob, htb⟩ := hb
  refine ⟨⟨_, rfl⟩, _, rfl, nz, Cn, dz, _, rfl, List.mem_singleton.mpr rfl, hnz, rfl, _, a', b', c', rfl, N2, fun D ts H3 e3 hD sp => ?_⟩
  refine ⟨D, rfl, ⟨_, SqL.of hD⟩, fun D' hD' => ?_⟩
  have hlen : (ts.map V.ref).length = (a' * c').toNat := by rw [List.length_map, sp.1]
  refine lc_by (R := RTxt a' c' (movG g p' q' r' s'' sx sy)) (walk_lst (SqL.of hD)) hD' (fun i x H4 hi hx p4 => ?_) (fun H4 p4 => ?_)
  · obtain ⟨u, rfl, hu⟩ : ∃ u, x = .ref u ∧ ts[i]? = some u := by
      rw [List.getElem?_map] at hx
      cases h : ts[i]? with
      | none => rw [h] at hx; cases hx
      | some u => rw [h] at hx; exact ⟨u, (Option.some.inj hx).symm, rfl⟩
    rw [hlen] at hi
    have e04 := ((e1.trans e2).trans e3).trans p4.1
    refine ⟨rfl, _, rfl, o, C1, dx, _, rfl, hC, e04 _ _ ho, rfl, _, rfl, ob, M, db, _, rfl, List.mem_singleton.mpr rfl, p4.1 _ _ (e3 _ _ hob), rfl, _, rfl, ?_⟩
    refine ⟨_, u, backK k, p', q', r', s'', _, _, _, _, rfl, hb0.ext (e3.trans p4.1), hkb, p4.1 _ _ (sp.2 i u hu), fun z5 H5 e5 hz5 => ?_⟩
    refine ⟨_, z5, g, a, b, c, _, _, rfl, cv0.ext (Ex.l (e04.trans e5)), hz5, fun H6 e6 => ?_⟩
    refine p4.yes rtxt_mono hD' (e5.trans e6) ⟨hi, rfl⟩ ?_
    show i < 2 ^ 24
    omega
  · rw [hlen] at p4
    have e24 := e3.trans p4.1
    refine ⟨_, D', _, rfl, rfl, .inl (SqL.of (rtxt_list p4)), join_ok (by rw [txt_len]; omega), ?_⟩
    rw [join_signs]
    refine fun x dx2 nx nd ne => ?_
    have e5 : Ex H4 (upd (upd H4 dx2 (.own x)) x (.ins C dx2 [])) := made_ext nx nd (fun b u _ h => h)
    refine ⟨x, dx2, _, a', b', c', _, rfl, upd_same, N2.ext (Ex.l (e24.trans e5)), mov_per per bk hin, fun _ _ => hL _ _, fun H6 a2 b2 c2 e6 cv2 hz2 => ⟨rfl, ?_⟩⟩
    exact hQ _ H6 a2 b2 c2 (((e1.trans e2).trans e24).trans (made_ext nx nd e6)) cv2 (by omega)
end
end Wk
end
section
set_option maxHeartbeats 4000000
/-! Rows; Carpet's making. -/
namespace Wk
open PySem PySem.Spec PyProof.Rows L2 Cl TL
theorem for_enum {K : PySem.W.Frag} {a : Addr} {xs : List V} {H1 : Hp} {g : TG} {tb : TS} {D : Ends} {σ : L2.St} (h : SqL K H1 a xs) (Pv : Nat → L2.St → Hp → Prop) (h0 : Pv 0 σ H1) (hx : ∀ i σ H, i ≤ xs.length → Pv i σ H → Ex H1 H)
    (hs : ∀ (i : Nat) x σ H T, xs[i]? = some x → Pv i σ H → H T = none → g (.ref T) σ (upd H T (.tup [.int (i : Nat), x])) fun σ2 H2 => tb { D with nx := Pv (i + 1), ct := Pv (i + 1), bk := D.nx } σ2 H2) (hd : ∀ σ H, Pv xs.length σ H → D.nx σ H) :
    ∃ W : Nat → Nat → L2.St → Hp → Prop, (∃ m, W 0 m σ H1) ∧ ∀ i m σ H, W i m σ H →
      ((Ite K a).stop i H ∧ D.nx σ H) ∨ ((Ite K a).go i H ∧ ∃ N : L2.St → Hp → Prop, (∀ σ' H', N σ' H' → ∃ m', m' < m ∧ W (i + 1) m' σ' H') ∧ ∀ x H', (Ite K a).yld i H x H' → g x σ H' fun σ2 H2 => tb { D with nx := N, ct := N, bk := D.nx } σ2 H2) := by
  refine ⟨fun i m σ H => m = xs.length - i ∧ i ≤ xs.length ∧ Pv i σ H, ⟨xs.length, by simp, Nat.zero_le _, h0⟩, ?_⟩
  rintro i m σ H ⟨rfl, hi, p⟩
  have e1 := hx i σ H hi p
  by_cases hlt : i < xs.length
  · refine .inr ⟨⟨xs, xs[i], sqL_ext h e1, by simp [hlt]⟩, Pv (i + 1), fun σ' H' p' => ⟨xs.length - (i + 1), by omega, rfl, hlt, p'⟩, fun x H' y => ?_⟩
    obtain ⟨T, z, rfl, nT, rfl, q⟩ := y
    exact hs i z σ H T (q _ (sqL_ext h e1)) p nT
  · have e : i = xs.length := by omega
    subst e
    exact .inl ⟨⟨xs, sqL_ext h e1, Nat.le_refl _⟩, hd σ H p⟩
/-- row k of a colouring's cell -/
def rowOf (a : Int) (g : Int → Int → Nat) (k : Nat) : List Nat := (List.range a.toNat).map fun (i : Nat) => g i k
theorem rowOf_len (a : Int) (g : Int → Int → Nat) (k : Nat) : (rowOf a g k).length = a.toNat := by simp [rowOf]
def rowsOf (a c : Int) (g : Int → Int → Nat) : List (List Nat) := (List.range c.toNat).map (rowOf a g)
theorem rowsOf_len (a c : Int) (g : Int → Int → Nat) : (rowsOf a c g).length = c.toNat := by simp [rowsOf]
theorem rows_flat (a c : Int) (g : Int → Int → Nat) (ha : 0 < a) (hc : 0 ≤ c) : (rowsOf a c g).flatten = txt a c g := by
  obtain ⟨n, rfl⟩ : ∃ n : Nat, c = n := ⟨c.toNat, by omega⟩
  obtain ⟨m, rfl⟩ : ∃ m : Nat, a = m := ⟨a.toNat, by omega⟩
  unfold rowsOf txt
  have e : ((m : Int) * (n : Int)).toNat = m * n := by omega
  rw [e, Int.toNat_natCast]
  clear e hc
  induction n with
  | zero => simp
  | succ n ih =>
    rw [List.range_succ, List.map_append, List.flatten_append, ih, Nat.mul_succ, List.range_add, List.map_append]
    congr 1
    simp only [List.map_cons, List.map_nil, List.flatten_cons, List.flatten_nil, List.append_nil, rowOf, List.map_map, Int.toNat_natCast]
    refine List.map_congr_left fun i hi => ?_
    have hi := List.mem_range.mp hi
    show g (i : Int) (n : Int) = g (((m * n + i : Nat) : Int) % m) (((m * n + i : Nat) : Int) / m)
    have e1 : ((m * n + i : Nat) : Int) % m = i := by
      rw [← Int.natCast_emod, Nat.mul_add_mod, Nat.mod_eq_of_lt hi]
    have e2 : ((m * n + i : Nat) : Int) / m = n := by
      rw [← Int.natCast_ediv, Nat.mul_add_div (by omega), Nat.div_eq_of_lt hi, Nat.add_zero]
    rw [e1, e2]
theorem join_rows (l : List (List Nat)) : Txt.join "" (l.map mkS) = mkS l.flatten := by
  refine ext_tl ?_
  rw [join_eq, tl_join]
  have e : tl (("" : Str)) = [] := by decide +kernel
  rw [e, List.map_map]
  have key : ∀ m : List (List Nat), joinL [] (m.map (tl ∘ mkS)) = m.flatten := fun m => by
    induction m with
    | nil => rfl
    | cons c r ih =>
      cases r with
      | nil => simp [joinL, tl, mkS]
      | cons d r' =>
        show tl (mkS c) ++ ([] ++ joinL [] ((d :: r').map (tl ∘ mkS))) = _
        rw [ih]
        simp [tl, mkS]
  rw [key]
  exact (mkS_list _).symm
structure MostR (mg : Str → Option Value) : Prop where
  r : ∃ t, mg "MOST_ROWS" = some (.int 100 t)
  l : ∃ t, mg "MOST_LETTERS" = some (.int 1000 t)
theorem scChkRows : FnScope ["rows", "signs", "most", "index", "row"] ["rows", "signs", "most"] (defScope sChkRows) := ⟨rfl, rfl, rfl, by decide +kernel, rfl, by decide +kernel, by decide +kernel⟩
def spChkRows : Sp := fun vs H Q _ => ∃ (D : Addr) (a c : Int) (g : Int → Int → Nat), vs = [.ref D, .str letS, .int 100] ∧ H D = some (.lst ((rowsOf a c g).map fun r => .str (mkS r))) ∧ 1 ≤ a ∧ a ≤ 100 ∧ 1 ≤ c ∧ c ≤ 100 ∧ (∀ x y, Letter (g x y)) ∧ ∀ H', Ex H H' → Q .non H'
theorem scBlock : FnScope ["rows", "shift", "width"] ["rows", "shift"] (defScope sBlock) := ⟨rfl, rfl, rfl, by decide +kernel, rfl, by decide +kernel, by decide +kernel⟩
def spBlock (C : Addr) : Sp := fun vs H Q _ => ∃ (D : Addr) (a c sh : Int) (g : Int → Int → Nat), vs = [.ref D, .int sh] ∧ H D = some (.lst ((rowsOf a c g).map fun r => .str (mkS r))) ∧ 1 ≤ a ∧ a ≤ 100 ∧ 1 ≤ c ∧ c ≤ 100 ∧ a * c ≤ 1000 ∧ (∀ x y, Letter (g x y)) ∧
  ∀ p z H', Ex H H' → H' p = some (.tup [z, .str (mkS (txt a c g))]) → NetV C H' z a (sh % a) c → Q (.ref p) H'
theorem bL : bootBuiltins "list" = some (.type "list") := by decide +kernel
section
variable {P : Program} {w : World} {K : PySem.W.Frag} {mg : Str → Option Value} {base : Heap} {f fA fN fI fB fC fS fP fD fK fL Cn C D M : Addr} {Cs : List Addr} {fd fdN : FuncData}
theorem ok_chkRows (F : FD K "check_rows" "check_rows" sChkRows f fd) (B : Bl mg) (FR : FnR P w K mg base C0 1 fA spIsRow) (GR : Gb K mg "is_row" fA) : FnR P w K mg base C0 2 f spChkRows := by
  refine rawOf (okOf F scChkRows (fun vs H Q E h => ?_) fun cdv A outer s H vs Q E hr h => ?_) (F.bindsN fun _ _ _ _ _ _ us hl => match us, hl with | [_, _, _], _ => rfl)
  · obtain ⟨_, _, _, _, rfl, _⟩ := h; rfl
  obtain ⟨D, a, c, g, rfl, hD, a1, a2, c1, c2, hL, hQ⟩ := h
  have hlen : ((rowsOf a c g).map fun r => V.str (mkS r)).length = c.toNat := by rw [List.length_map, rowsOf_len]
  have h0 : ∀ i, i < c.toNat → ((rowsOf a c g).map fun r => V.str (mkS r))[i]? = some (.str (mkS (rowOf a g i))) := fun i hi => by
    rw [List.getElem?_map]; unfold rowsOf; rw [List.getElem?_map, List.getElem?_range hi]; rfl
  have rl : ∀ i, (mkS (rowOf a g i)).length = a.toNat := fun i => by rw [mkS_len, rowOf_len]
  refine ⟨_, pss_cons (ps_if (PW.pt (pw_or (pt_not (pt_val (pe_callB call_isiT rfl B.isinstance bIsi (pa_cons (pv 0) (pa_cons (pe_tup (pa_cons (pe_bltn (v := .ty "list") rfl B.list bL rfl) (pa_cons (pe_bltn (v := .ty "tuple") rfl B.tuple bT rfl) pa_nil))) pa_nil)))))
      (pw_or1 (pt_not (pt_chain op_le op_le pe_int (pe_callB call_len_seq rfl B.len PySem.boot_len (pa_cons (pv 0) pa_nil)) (pv 2)))))) pss_never pss_nil)
    (pss_one (ps_for PassesOwn.never rfl (pi_enum rfl B.enumerate (pa_cons (pv 0) pa_nil)) (pg_tup rfl (pgs_cons (pg_name (i := 3) scChkRows.nd rfl (Or.inl rfl)) (pgs_cons (pg_name (i := 4) scChkRows.nd rfl (Or.inl rfl)) pgs_nil)))
      (pss_one (ps_if (PW.pt (pw_or (pt_not (pt_val (pe_g FR GR hr rfl (pa_cons (pv 4) (pa_cons (pv 1) (pa_cons (pv 2) pa_nil)))))) (pw_or1 (pt_cmpR op_ne (pe_callB call_len_str rfl B.len PySem.boot_len (pa_cons (pv 4) pa_nil)) (pe_callB call_len_str rfl B.len PySem.boot_len (pa_cons (pe_ix ix_list (pv 0) pe_int (fun _ _ => rfl)) pa_nil)) (nomark _))))) pss_never pss_nil)))), ?_⟩
  refine ⟨_, rfl, by show 2 ≤ sizeLine; decide, fun T1 n1 => ?_⟩
  have e1 : Ex H (upd H T1 (.tup [.ty "list", .ty "tuple"])) := Ex.upd n1
  refine ⟨_, T1, _, _, _, true, rfl, upd_same, .cons (.ty "list") (.cons (.ty "tuple") .nil), .base (.lst (e1 _ _ hD)), kitAny_cons (b := true) (kit_ty (by decide +kernel)) (fun z => (by cases z)) (fun _ => rfl), true, rfl, ?_⟩
  refine iteF ⟨_, rfl, D, _, rfl, .inl (SqL.of (e1 _ _ hD)), _, _, rfl, rfl, _, rfl, ?_⟩
  rw [hlen, decide_eq_true (show (1 : Int) ≤ (c.toNat : Int) by omega)]
  refine iteT ⟨_, rfl, _, _, rfl, rfl, _, rfl, ?_⟩
  rw [decide_eq_true (show (c.toNat : Int) ≤ 100 by omega)]
  refine iteF ⟨_, rfl, D, _, rfl, SqL.of (e1 _ _ hD), ?_⟩
  refine for_enum (SqL.of (e1 _ _ hD)) (fun i σ H' => Ex H H' ∧ Ex (upd H T1 (.tup [.ty "list", .ty "tuple"])) H' ∧ ∃ X Y, σ = [some (.ref D), some (.str letS), some (.int 100), X, Y]) ⟨e1, Ex.refl _, _, _, rfl⟩ (fun i σ H' _ h => h.2.1) ?_ ?_
  · rintro i x σ H' T hi ⟨e, e', X, Y, rfl⟩ nT
    have hlt : i < c.toNat := by
      have := (List.getElem?_eq_some_iff.mp hi).1
      omega
    rw [h0 i hlt] at hi
    cases hi
    have e2 : Ex H' (upd H' T (.tup [.int (i : Nat), .str (mkS (rowOf a g i))])) := Ex.upd nT
    refine ⟨T, _, rfl, SqT.of upd_same, rfl, _, _, rfl, _, _, rfl, rfl, ?_⟩
    refine ⟨_, rfl, _, rfl, _, rfl, _, 100, rfl, by rw [rowOf_len]; omega, by rw [rowOf_len]; omega, by rw [rowOf_len]; omega, ?_, fun H3 e3 => ?_⟩
    · intro n hn
      obtain ⟨j, _, rfl⟩ := List.mem_map.mp hn
      exact hL _ _
    refine ⟨_, rfl, iteF ⟨_, rfl, _, rfl, by rw [rl]; show _ ≤ 2 ^ 24; omega, ?_⟩⟩
    refine ⟨_, rfl, D, _, _, _, rfl, rfl, SqL.of (e3 _ _ (e2 _ _ (e _ _ hD))), atI_nat (j := 0) (h0 0 (by omega)), _, rfl, by rw [rl]; show _ ≤ 2 ^ 24; omega, rfl, _, rfl, ?_⟩
    rw [rl, rl, decide_eq_true rfl]
    refine iteF ⟨(e.trans e2).trans e3, (e'.trans e2).trans e3, _, _, rfl⟩
  · rintro σ H' ⟨e, e', X, Y, rfl⟩
    exact hQ H' e
theorem ok_block (F : FD K "checked_block" "checked_block" sBlock f fd) (B : Bl mg) (L : LetF mg) (MR : MostR mg) (FR : FnR P w K mg base C0 2 fA spChkRows) (GR : Gb K mg "check_rows" fA) (FI : FnR P w K mg base C0 1 fI spIsInt) (GI : Gb K mg "is_integer" fI)
    (T : NetF K mg C) (FN : FnR P w K mg base C0 3 fN (spNetInit C)) (mk : Mk K C fN) : FnR P w K mg base C0 5 f (spBlock C) := by
  obtain ⟨tk, gL⟩ := L.g
  obtain ⟨t1, gR⟩ := MR.r
  obtain ⟨t2, gM⟩ := MR.l
  refine rawOf (okOf F scBlock (fun vs H Q E h => ?_) fun cdv A outer s H vs Q E hr h => ?_) (F.bindsN fun _ _ _ _ _ _ us hl => match us, hl with | [_, _], _ => rfl)
  · obtain ⟨_, _, _, _, _, rfl, _⟩ := h; rfl
  obtain ⟨D, a, c, sh, g, rfl, hD, a1, a2, c1, c2, ac, hL, hQ⟩ := h
  have hlen : ((rowsOf a c g).map fun r => V.str (mkS r)).length = c.toNat := by rw [List.length_map, rowsOf_len]
  have h0 : ∀ i, i < c.toNat → ((rowsOf a c g).map fun r => V.str (mkS r))[i]? = some (.str (mkS (rowOf a g i))) := fun i hi => by
    rw [List.getElem?_map]; unfold rowsOf; rw [List.getElem?_map, List.getElem?_range hi]; rfl
  have rl : ∀ i, (mkS (rowOf a g i)).length = a.toNat := fun i => by rw [mkS_len, rowOf_len]
  refine ⟨_, pss_cons (ps_expr (pe_g FR GR (hr.mono (by decide)) rfl (pa_cons (pv 0) (pa_cons (pe_glob (v := .str letS) rfl gL ⟨_, rfl⟩) (pa_cons (pe_glob (v := .int 100) rfl gR ⟨_, rfl⟩) pa_nil)))))
    (pss_cons (ps_if (pt_cmpR op_gt (pe_op op_mul (pe_callB call_len_seq rfl B.len PySem.boot_len (pa_cons (pv 0) pa_nil)) (pe_callB call_len_str rfl B.len PySem.boot_len (pa_cons (pe_ix ix_list (pv 0) pe_int (fun _ _ => rfl)) pa_nil))) (pe_glob (v := .int 1000) rfl gM ⟨_, rfl⟩) (nomark _)) pss_never pss_nil)
    (pss_cons (ps_if (pt_not (pt_val (pe_g FI GI (hr.mono (by decide)) rfl (pa_cons (pv 1) pa_nil)))) pss_never pss_nil)
    (pss_cons (ps_set (i := 2) scBlock.nd rfl (Or.inl rfl) (pe_callB call_len_str rfl B.len PySem.boot_len (pa_cons (pe_ix ix_list (pv 0) pe_int (fun _ _ => rfl)) pa_nil)))
    (pss_one (ps_ret (pe_tup (pa_cons (StX.pe_makeR mk FN hr rfl T.g (passes0 (E := EN)) (pa_cons (pv 2) (pa_cons (pe_op op_mod (pv 1) (pv 2)) (pa_cons (pe_callB call_len_seq rfl B.len PySem.boot_len (pa_cons (pv 0) pa_nil)) pa_nil)))) (pa_cons (pe_join pe_str (pv 0)) pa_nil)))))))), ?_⟩
  refine ⟨_, rfl, D, a, c, g, rfl, hD, a1, a2, c1, c2, hL, fun H1 e1 => ?_⟩
  refine ⟨_, rfl, D, _, rfl, .inl (SqL.of (e1 _ _ hD)), _, rfl, D, _, _, _, rfl, rfl, SqL.of (e1 _ _ hD), atI_nat (j := 0) (h0 0 (by omega)), _, rfl, by rw [rl]; show _ ≤ 2 ^ 24; omega, _, _, rfl, rfl, ?_⟩
  rw [hlen, rl]
  have e2 : ((c.toNat : Nat) : Int) * ((a.toNat : Nat) : Int) = a * c := by rw [Int.toNat_of_nonneg (by omega), Int.toNat_of_nonneg (by omega), Int.mul_comm]
  refine ⟨.inr ⟨by omega, by omega⟩, _, _, rfl, rfl, _, rfl, ?_⟩
  rw [e2, decide_eq_false (show ¬ a * c > 1000 by omega)]
  refine iteF ⟨_, rfl, sh, rfl, _, rfl, iteF ?_⟩
  refine ⟨_, rfl, D, _, _, _, rfl, rfl, SqL.of (e1 _ _ hD), atI_nat (j := 0) (h0 0 (by omega)), _, rfl, by rw [rl]; show _ ≤ 2 ^ 24; omega, ?_⟩
  rw [rl, Int.toNat_of_nonneg (by omega)]
  refine ⟨_, rfl, _, rfl, _, rfl, _, _, rfl, rfl, by omega, _, rfl, D, _, rfl, .inl (SqL.of (e1 _ _ hD)), ?_⟩
  rw [hlen, Int.toNat_of_nonneg (by omega)]
  intro x dx nx nd ne
  have m1 := Int.emod_nonneg sh (show a ≠ 0 by omega)
  have m2 := Int.emod_lt_of_pos sh (show 0 < a by omega)
  refine ⟨x, dx, a, sh % a, c, rfl, upd_same, ⟨by omega, by omega, by omega⟩, by omega, fun H3 e3 N => ⟨rfl, ?_⟩⟩
  have e13 := e1.trans (made_ext nx nd e3)
  have em : ((rowsOf a c g).map fun r => V.str (mkS r)) = ((rowsOf a c g).map mkS).map V.str := by rw [List.map_map]; rfl
  have hD3 := e13 _ _ hD
  rw [em] at hD3
  refine ⟨⟨_, rfl⟩, _, rfl, _, D, _, rfl, rfl, .inl (SqL.of hD3), ?_, by show 2 ≤ sizeLine; decide, fun p np => ?_⟩
  · have ee : (("" : Str)).length = 0 := by decide +kernel
    have es : ∀ m : List (List Nat), ((m.map mkS).map (·.length)).sum = m.flatten.length := fun m => by
      induction m with
      | nil => rfl
      | cons r m ih => rw [List.map_cons, List.map_cons, List.sum_cons, ih, mkS_len, List.flatten_cons, List.length_append]
    rw [es, rows_flat a c g (by omega) (by omega), txt_len, ee]
    omega
  · rw [join_rows, rows_flat a c g (by omega) (by omega)]
    exact hQ p _ _ (e13.trans (Ex.upd np)) upd_same (N.ext (Ex.l (Ex.upd np)))
end
end Wk
end
section
set_option maxHeartbeats 4000000
/-! Calls with keywords; Carpet's making. -/
namespace Wk
open PySem PySem.Spec PyProof.Rows L2 Cl TL
/-- a def called with n values and then the keywords ks -/
def KFn (P : Program) (w : World) (K : PySem.W.Frag) (mg : Str → Option Value) (base : Heap) (k : Nat) (f : Addr) (n : Nat) (ks : List Str) (sp : Sp) : Prop :=
  ∃ (fd : FuncData) (ps : List Str) (g : List Value → List Value → List Value), FnOk P w K mg base C0 k f fd ps sp ∧ KBn K fd ps n ks g (fun vs zs => vs ++ zs)
section
variable {X : Cx} {k n : Nat} {f C : Addr} {ks : List Str} {sp : Sp} {x : Str} {p pos : Pos} {e : Expr} {es : List Expr} {kws : List Keyword} {t tk : TA}
theorem pe_k (F : KFn X.prog X.w X.K X.mg X.base k f n ks sp) (G : Gb X.K X.mg x f) (hr : Room k X.A) (hg : Gl X x) (ha : PA X (e :: es) t) (hkw : PK X kws tk)
    (hall : (backToKw pos (keywordEach kws X.env)).all (·.1.isSome) = true := by rfl) (hks : (backToKw pos (keywordEach kws X.env)).filterMap (·.1) = ks := by rfl)
    (hdb : (x == ("__debug__" : Str)) = false := by decide) (he : starEach (e :: es) X.env = (false, eval e X.env) :: starEach es X.env := by rfl)
    (hpl : ((backTo pos (starEach (e :: es) X.env)).any (·.1) || (backToKw pos (keywordEach kws X.env)).any (·.1.isNone)) = false := by rfl) :
    PE X (.Call (.Name x p) (e :: es) kws pos) (tCallN n ks.length sp (fun vs zs => vs ++ zs) EN t tk) := by
  obtain ⟨fd, ps, g, F, hb⟩ := F
  exact pe_callN F hr hg G.g G.kp hb (passes0 (E := EN)) ha hkw hall hks hdb he hpl
theorem pe_mkK (M : Mk X.K C f) (F : KFn X.prog X.w X.K X.mg X.base k f (n + 1) ks sp) (hr : Room (k + 1) X.A) (hg : Gl X x) (hm : X.mg x = some (.ref C)) (ha : PA X (e :: es) t) (hkw : PK X kws tk)
    (hall : (backToKw pos (keywordEach kws X.env)).all (·.1.isSome) = true := by rfl) (hks : (backToKw pos (keywordEach kws X.env)).filterMap (·.1) = ks := by rfl)
    (hdb : (x == ("__debug__" : Str)) = false := by decide) (he : starEach (e :: es) X.env = (false, eval e X.env) :: starEach es X.env := by rfl)
    (hpl : ((backTo pos (starEach (e :: es) X.env)).any (·.1) || (backToKw pos (keywordEach kws X.env)).any (·.1.isNone)) = false := by rfl) :
    PE X (.Call (.Name x p) (e :: es) kws pos) (tMakeK C n ks.length sp (fun vs zs => vs ++ zs) EN t tk) := by
  obtain ⟨fd, ps, g, F, hb⟩ := F
  exact pe_makeK M F hr hg hm hb (passes0 (E := EN)) ha hkw hall hks hdb he hpl
end
section
variable {K : PySem.W.Frag} {x qual : Str} {params : Arguments} {body : List Stmt} {scope : Scope} {kws : List (Str × V)} {f : Addr} {fd : FuncData} {ps : List Str}
theorem kbOf (F : FunD K x qual params body scope [] [] f fd) (n : Nat) (ks : List Str)
    (h : ∀ (kV doc pm : Value) (an : Option Addr) (cdv ct : Value) (us ws : List Value), us.length = n → ws.length = ks.length → bindArgs (PySem.W.fnOf x qual params body scope .none kV doc pm an cdv ct) ⟨us, ks.zip ws⟩ = pure (ps.zip (us ++ ws))) :
    KBn K fd ps n ks (fun us ws => us ++ ws) (fun vs zs => vs ++ zs) := by
  obtain ⟨oc, od, dV, kV, doc, pm, an, cdv, ct, osl, rfl, lk, hcd, hD, hK⟩ := F.ex
  rcases hD with ⟨_, rfl⟩ | ⟨e, _⟩
  · exact ⟨fun s us ws X l1 l2 => BindsTo.of_looks fun M => PySem.W.Looks.of_pure (h kV doc pm an cdv ct us ws l1 l2), fun r1 r2 => r1.append r2⟩
  · exact absurd rfl e
theorem kbOf0 (F : FunD K x qual params body scope [] kws f fd) (n : Nat) (ks : List Str) (hk : kws ≠ [])
    (h : ∀ (D : Addr) (doc pm : Value) (an : Option Addr) (cdv ct : Value) (us ws : List Value), us.length = n → ws.length = ks.length → bindArgs (PySem.W.fnOf x qual params body scope .none (.ref D) doc pm an cdv ct) ⟨us, ks.zip ws⟩ = pure (ps.zip (us ++ ws))) :
    ∃ g, KBn K fd ps n ks g (fun vs zs => vs ++ zs) := by
  obtain ⟨mv, hb⟩ := F.kbinds0 (ps := ps) n ks [] (fun us _ ws => us ++ ws) hk (fun q hq => absurd hq (by simp)) (fun r1 _ r2 => r1.append r2) (fun D doc pm an cdv ct us mv ws l1 l2 l3 => by
    obtain rfl : mv = [] := List.eq_nil_of_length_eq_zero l2
    exact h D doc pm an cdv ct us ws l1 l3)
  exact ⟨_, hb⟩
end
theorem scCarInit : FnScope ["self", "rows", "shift", "net", "text"] ["self", "rows", "shift"] (defScope (sCar 0)) := ⟨rfl, rfl, rfl, by decide +kernel, rfl, by decide +kernel, by decide +kernel⟩
def spCarInit (Cn C : Addr) : Sp := fun vs H Q _ => ∃ (o dx D : Addr) (a c sh : Int) (g : Int → Int → Nat), vs = [.ref o, .ref D, .int sh] ∧ H o = some (.ins C dx []) ∧ H D = some (.lst ((rowsOf a c g).map fun r => .str (mkS r))) ∧ 1 ≤ a ∧ a ≤ 100 ∧ 1 ≤ c ∧ c ≤ 100 ∧ a * c ≤ 1000 ∧ (∀ x y, Letter (g x y)) ∧ PerN a (sh % a) c g ∧
  ∀ H' a' b' c', ExB o H H' → CarV Cn [C] H' (.ref o) g a' b' c' → a' * c' ≤ a * c → Q .non H'
section
variable {P : Program} {w : World} {K : PySem.W.Frag} {mg : Str → Option Value} {base : Heap} {f fA fN fI fB fC fS fP fD fK fL Cn C D M : Addr} {Cs : List Addr} {fd fdN : FuncData}
theorem ok_carInit (F : FunD K "__init__" "Carpet.__init__" (defArgs (sCar 0)) (defBody (sCar 0)) (defScope (sCar 0)) [] [("shift", .int 0)] f fd) (T : CarF K Cs) (hC : C ∈ Cs) (FB : FnR P w K mg base C0 5 fB (spBlock Cn)) (GB : Gb K mg "checked_block" fB)
    (FL : FnR P w K mg base C0 6 fL (spLeast Cn)) (GL : Gb K mg "least_cell" fL) : KFn P w K mg base 7 f 2 ["shift"] (spCarInit Cn C) := by
  have G : FnOk P w K mg base C0 7 f fd ["self", "rows", "shift"] (spCarInit Cn C) := by
    refine F.ok scCarInit (fun vs H Q E h => ?_) fun cdv A outer s H vs Q E hr h => ?_
    · obtain ⟨_, _, _, _, _, _, _, rfl, _⟩ := h; rfl
    obtain ⟨o, dx, D, a, c, sh, g, rfl, ho, hD, a1, a2, c1, c2, ac, hL, per, hQ⟩ := h
    refine ⟨_, PSs.nox (pss_cons (ps_asg (pe_g FB GB (hr.mono (by decide)) rfl (pa_cons (pv 1) (pa_cons (pv 2) pa_nil))) (pg_tup rfl (pgs_cons (pg_name (i := 3) scCarInit.nd rfl (Or.inl rfl)) (pgs_cons (pg_name (i := 4) scCarInit.nd rfl (Or.inl rfl)) pgs_nil))))
      (pss_one (ps_asg (pe_g FL GL hr rfl (pa_cons (pv 3) (pa_cons (pv 4) pa_nil))) (pg_tup rfl (pgs_cons (pg_fld (pv 0)) (pgs_cons (pg_fld (pv 0)) pgs_nil)))))), ?_⟩
    refine ⟨_, rfl, _, rfl, D, a, c, sh, g, rfl, hD, a1, a2, c1, c2, ac, hL, fun p z H1 e1 hp N => ?_⟩
    refine ⟨p, _, rfl, SqT.of hp, rfl, _, _, rfl, _, _, rfl, rfl, ?_⟩
    refine ⟨_, rfl, _, rfl, z, _, _, _, g, rfl, N, per, fun p2 z2 a' b' c' H2 e2 hp2 N1 can hsz => ?_⟩
    obtain ⟨n, dn, q, rfl, hn, hq, ok1, hz1⟩ := N1
    have ho2 := e2 _ _ (e1 _ _ ho)
    refine ⟨p2, _, rfl, SqT.of hp2, rfl, _, _, rfl, _, rfl, o, C, dx, _, rfl, ho2, (T.kl C hC).cl, T.nn C hC, by decide, ?_⟩
    refine ⟨_, _, rfl, _, rfl, o, C, dx, _, rfl, upd_same, (T.kl C hC).cl, T.nt C hC, by show 1 < 1000; decide, rfl, ?_⟩
    rw [upd_upd]
    have n1 : n ≠ o := fun z => by
      rw [z, ho2] at hn
      injection hn with hn
      injection hn with _ _ hn
      cases hn
    have n2 : q ≠ o := fun z => by rw [z, ho2] at hq; cases hq
    refine hQ _ a' b' c' ((ExB.of (e1.trans e2)).trans ExB.put) ⟨o, C, dx, n, rfl, List.mem_singleton.mpr rfl, upd_same, ⟨n, dn, q, rfl, ?_, ?_, ok1, hz1⟩, can, hL⟩ hsz
    · rw [upd_ne n1]; exact hn
    · rw [upd_ne n2]; exact hq
  obtain ⟨gg, hb⟩ := kbOf0 (ps := ["self", "rows", "shift"]) F 2 ["shift"] (by simp) (fun D doc pm an cdv ct us ws l1 l2 => match us, ws, l1, l2 with | [_, _], [_], _, _ => rfl)
  exact ⟨fd, _, gg, G, hb⟩
end
end Wk
end
section
set_option maxHeartbeats 4000000
/-! common_net, net_of_all. -/
namespace Wk
open PySem PySem.Spec PyProof.Rows L2 Cl TL
abbrev N3 := Int × Int × Int
abbrev InN (n : N3) (x y : Int) : Prop := Mn.In n.1 n.2.1 n.2.2 x y
/-- nets one by one -/
def NetsV (C : Addr) (H : Hp) (vs : List V) (ns : List N3) : Prop := vs.length = ns.length ∧ ∀ (i : Nat) (n : N3), ns[i]? = some n → ∃ v, vs[i]? = some v ∧ NetV C H v n.1 n.2.1 n.2.2
theorem NetsV.ext {C : Addr} {H H' : Hp} {vs : List V} {ns : List N3} (h : NetsV C H vs ns) (e : ExtL H H') : NetsV C H' vs ns := ⟨h.1, fun i n q => by
  obtain ⟨v, h1, h2⟩ := h.2 i n q
  exact ⟨v, h1, h2.ext e⟩⟩
theorem NetsV.nil {C : Addr} {H : Hp} : NetsV C H [] [] := ⟨rfl, fun i n q => by simp at q⟩
theorem NetsV.cons {C : Addr} {H : Hp} {v : V} {vs : List V} {a b c : Int} {ns : List N3} (h : NetV C H v a b c) (t : NetsV C H vs ns) : NetsV C H (v :: vs) ((a, b, c) :: ns) := ⟨by simp [t.1], fun i n q => by
  cases i with
  | zero =>
    simp at q
    subst q
    exact ⟨v, rfl, h⟩
  | succ i => exact t.2 i n (by simpa using q)⟩
theorem scCommon : FnScope ["nets", "result", "net"] (([] : List Str) ++ [("nets" : Str)]) (defScope sCommon) := ⟨rfl, rfl, rfl, by decide +kernel, rfl, by decide +kernel, by decide +kernel⟩
/-- what is asked of the nets handed to common_net: a net p, q, r of at most 1000 places lies in all -/
structure Below (ns : List N3) (p q r : Int) : Prop where
  ok : Mn.Ok p q r
  sz : p * r ≤ 1000
  sub : ∀ n ∈ ns, ∀ x y, Mn.In p q r x y → InN n x y
def spCommon (C : Addr) : Sp := fun vs H Q _ => ∃ (ns : List N3) (p q r : Int), NetsV C H vs ns ∧ ns.length ≤ 1000 ∧ Below ns p q r ∧
  ∀ z a b c H', Ex H H' → NetV C H' z a b c → (∀ x y, Mn.In a b c x y ↔ ∀ n ∈ ns, InN n x y) → Q z H'
theorem scNetAll : FnScope ["carpets", "nets", "carpet"] ["carpets"] (defScope sNetAll) := ⟨rfl, rfl, rfl, by decide +kernel, rfl, by decide +kernel, by decide +kernel⟩
section
variable {P : Program} {w : World} {K : PySem.W.Frag} {mg : Str → Option Value} {base : Heap} {f fA fN fI fB fC fS fP fD fK fL Cn C D M q : Addr} {Cs : List Addr} {fd fdN : FuncData} {mc : Value}
theorem op1 {X : Cx} {k : Nat} {C f : Addr} {sp : Sp} (F : FnR X.prog X.w X.K X.mg X.base C0 k f sp) (hr : Room k X.A) (O : Op1F X.K C (PySem.dunder (Operator.info .BitAnd).2) f) : OpR X (binaryOp .BitAnd) (rOwnB C C sp id) := op_own1 F hr O.hc O.hs O.hf
theorem ok_common (F : FD K "common_net" "common_net" sCommon f fd) (T : NetF K mg C) (r0 : ClX.CRead K C mc) (c0 : ClX.CMet K C mc "whole" q fI) (FW : FnR P w K mg base C0 5 fI (spWhole C)) (FA : FnR P w K mg base C0 5 fA (spAnd C)) (OA : Op1F K C (PySem.dunder (Operator.info .BitAnd).2) fA)
    (MF : MostF mg) (FN : FnOk P w K mg base C0 1 fN fdN ["self"] (spNetSize C)) (bN : L2.Binds K fdN ["self"] []) (PN : Ps K [C] "size" fN) : FnR P w K mg base C0 6 f (spCommon C) := by
  obtain ⟨tm, gM⟩ := MF.g
  obtain ⟨oc, od, dV, kV, doc, pm, an, cdv, ct, osl, rfl, lk, hcd, hD, _⟩ := F.ex
  obtain rfl : dV = .none := by
    rcases hD with ⟨_, h⟩ | ⟨h, _⟩
    · exact h
    · exact absurd rfl h
  have G := StX.fn_star (P := P) (w := w) (mg := mg) (base := base) (CX := C0) (k := 5) (N := ["nets", "result", "net"]) (ps := []) (pv := "nets") (sp := fun vs H Q _ => ∃ (t : Addr) (xs : List V) (ns : List N3) (p q r : Int), vs = [.ref t] ∧ H t = some (.tup xs) ∧ NetsV C H xs ns ∧ Below ns p q r ∧
    ∀ z a b c H', Ex H H' → NetV C H' z a b c → (∀ x y, Mn.In a b c x y ↔ ∀ n ∈ ns, InN n x y) → Q z H') lk hcd scCommon StX.cxUp_none (fun us rest hl => ?_) (fun A outer s H vs Q E hr h => ?_)
  · refine G.imp fun vs H Q E ⟨ns, p, q, r, h1, h2, h3, h4⟩ => ⟨[], vs, rfl, rfl, ?_, fun t nt => ⟨t, vs, ns, p, q, r, rfl, upd_same, h1.ext (Ex.l (Ex.upd nt)), h3, fun z a b c H' e => h4 z a b c H' ((Ex.upd nt).trans e)⟩⟩
    rw [h1.1]
    exact Nat.le_trans h2 (by decide)
  · obtain rfl : us = [] := List.eq_nil_of_length_eq_zero hl
    cases rest with
    | nil => rfl
    | cons r rs => rfl
  obtain ⟨t, xs, ns, p, q', r, rfl, ht, hns, B, hQ⟩ := h
  refine ⟨_, PSs.nox (pss_cons (ps_set (i := 1) scCommon.nd rfl (Or.inl rfl) (pe_c0 (pe_glob (v := .ref C) rfl T.g rfl) r0 c0 FW hr))
    (pss_cons (ps_for PassesOwn.never rfl (pi_tup (pv 0)) (pg_name (i := 2) scCommon.nd rfl (Or.inl rfl)) (pss_one (ps_set (i := 1) scCommon.nd rfl (Or.inl rfl) (pe_op (op1 FA hr OA) (pv 1) (pv 2)))))
    (pss_cons (ps_if (pt_cmpR op_gt (pe_p (pv 1) PN FN bN (hr.mono (by decide))) (pe_glob (v := .int 2000) rfl gM ⟨_, rfl⟩) (nomark _)) pss_never pss_nil)
    (pss_one (ps_ret (pv 1)))))), ?_⟩
  refine ⟨rfl, rfl, fun z H1 e1 N1 => ?_⟩
  refine ⟨_, rfl, t, rfl, ⟨_, SqT.of (e1 _ _ ht)⟩, ?_⟩
  refine for_by (walk_tup (SqT.of (e1 _ _ ht))) (fun i σ H' => Ex H1 H' ∧ ∃ z X a b c, σ = [some (.ref t), some z, X] ∧ NetV C H' z a b c ∧ ∀ x y, Mn.In a b c x y ↔ ∀ n ∈ ns.take i, InN n x y) ⟨Ex.refl _, z, _, 1, 0, 1, rfl, N1, fun x y => ⟨fun _ n hn => by simp at hn, fun _ => ⟨y, x, by omega, by omega⟩⟩⟩ (fun i σ H' _ h => h.1) ?_ ?_
  · rintro i v σ H' hi hv ⟨e, z, X, a, b, c, rfl, N, hin⟩
    rw [hns.1] at hi
    obtain ⟨v', hv', Nv⟩ := hns.2 i ns[i] (by simp [hi])
    rw [hv] at hv'
    cases hv'
    have hm : ns[i] ∈ ns := List.getElem_mem hi
    have Nv' := Nv.ext (Ex.l (e1.trans e))
    have N0 := N
    have Nv0 := Nv'
    obtain ⟨ok1, _⟩ := N.ok
    obtain ⟨ok2, _⟩ := Nv'.ok
    have s1 := Mn.sub_size B.ok ok1 fun x y h => (hin x y).mpr fun n hn => B.sub n (List.mem_of_mem_take hn) x y h
    have s2 := Mn.sub_size B.ok ok2 (B.sub _ hm)
    have p1 := Int.mul_pos ok1.a ok1.c
    have p2 := Int.mul_pos ok2.a ok2.c
    obtain ⟨n1, d1, q1, rfl, hn1, _⟩ := N0
    obtain ⟨n2, d2, q2, rfl, hn2, _⟩ := Nv0
    refine ⟨_, rfl, _, rfl, n1, n2, d1, d2, _, _, rfl, rfl, hn1, hn2, _, _, a, b, c, _, _, _, rfl, N, Nv', ?_, fun z' a' b' c' H2 e2 N2 hin2 _ => ⟨e.trans e2, z', _, a', b', c', rfl, N2, fun x y => ?_⟩⟩
    · have hsz := B.sz
      refine Int.le_trans (Int.mul_le_mul (Int.le_trans s1 hsz) (Int.le_trans s2 hsz) (by omega) (by omega)) (by omega)
    · rw [hin2 x y, hin x y, List.take_succ, List.getElem?_eq_getElem hi]
      simp only [Option.toList_some, List.mem_append, List.mem_singleton]
      exact ⟨fun ⟨h1, h2⟩ n hn => hn.elim (h1 n) (fun h => h ▸ h2), fun h => ⟨fun n hn => h n (.inl hn), h _ (.inr rfl)⟩⟩
  · rintro σ H' ⟨e, z, X, a, b, c, rfl, N, hin⟩
    rw [hns.1, List.take_length] at hin
    obtain ⟨ok1, _⟩ := N.ok
    have s1 := Mn.sub_size B.ok ok1 fun x y h => (hin x y).mpr fun n hn => B.sub n hn x y h
    have hsz := B.sz
    have N0 := N
    obtain ⟨n1, d1, q1, rfl, hn1, _⟩ := N0
    refine ⟨_, rfl, n1, C, d1, _, rfl, List.mem_singleton.mpr rfl, hn1, _, a, b, c, rfl, N, _, _, rfl, rfl, _, rfl, ?_⟩
    rw [decide_eq_false (show ¬ a * c > 2000 by omega)]
    refine iteF ⟨_, rfl, hQ _ a b c H' (e1.trans e) N hin⟩
/-- carpets one by one -/
def CarsV (Cn : Addr) (Cs : List Addr) (H : Hp) (vs : List V) (gs : List ((Int → Int → Nat) × N3)) : Prop := vs.length = gs.length ∧ ∀ (i : Nat) (n : (Int → Int → Nat) × N3), gs[i]? = some n → ∃ v, vs[i]? = some v ∧ CarV Cn Cs H v n.1 n.2.1 n.2.2.1 n.2.2.2
theorem CarsV.ext {C : Addr} {H H' : Hp} {vs : List V} {ns : List ((Int → Int → Nat) × N3)} (h : CarsV C Cs H vs ns) (e : ExtL H H') : CarsV C Cs H' vs ns := ⟨h.1, fun i n q => by
  obtain ⟨v, h1, h2⟩ := h.2 i n q
  exact ⟨v, h1, h2.ext e⟩⟩
def spNetAll (Cn : Addr) (Cs : List Addr) : Sp := fun vs H Q _ => ∃ (t : Addr) (xs : List V) (gs : List ((Int → Int → Nat) × N3)) (p q r : Int), vs = [.ref t] ∧ H t = some (.tup xs) ∧ CarsV Cn Cs H xs gs ∧ gs.length ≤ 1000 ∧ 1 ≤ gs.length ∧ Below (gs.map (·.2)) p q r ∧
  ∀ z a b c H', Ex H H' → NetV Cn H' z a b c → (∀ x y, Mn.In a b c x y ↔ ∀ n ∈ gs.map (·.2), InN n x y) → Q z H'
theorem ok_netAll (F : FD K "net_of_all" "net_of_all" sNetAll f fd) (B : Bl mg) (T : CarF K Cs) (FC : FnR P w K mg base C0 6 fC (spCommon Cn)) (GC : Gb K mg "common_net" fC) (FN : FnOk P w K mg base C0 1 fN fdN ["self"] (spCarNet Cn Cs)) (bN : L2.Binds K fdN ["self"] []) (PN : Ps K Cs "net" fN) :
    FnR P w K mg base C0 7 f (spNetAll Cn Cs) := by
  refine rawOf (okOf F scNetAll (fun vs H Q E h => ?_) fun cdv A outer s H vs Q E hr h => ?_) (F.bindsN fun _ _ _ _ _ _ us hl => match us, hl with | [_], _ => rfl)
  · obtain ⟨_, _, _, _, _, _, rfl, _⟩ := h; rfl
  obtain ⟨t, xs, gs, p, q, r, rfl, ht, hc, l1, l2, Bl', hQ⟩ := h
  refine ⟨_, pss_cons (ps_if (pt_cmpR op_eq (pe_callB call_len_seq rfl B.len PySem.boot_len (pa_cons (pv 0) pa_nil)) pe_int (nomark _)) pss_never pss_nil)
    (pss_cons (ps_setLc (i := 1) (own := [("carpet", 2)]) (g := gName 2) (tt := tYes) rfl scNetAll.nd rfl rfl (sw_true rfl rfl rfl (by decide +kernel)) (pi_tup (pv 0)) (blkOk_by (N := ["carpets", "nets", "carpet"]) (sc := defScope sNetAll) (by decide +kernel))
      (fun _ _ _ _ _ => pg_name (i := 2) scNetAll.nd rfl (Or.inl rfl)) (fun _ _ _ _ _ => pts_nil) (fun _ _ _ _ _ => pe_p (pv 2) PN FN bN (hr.mono (by decide))))
    (pss_one (ps_ret (StX.pe_callS1 FC hr GC.kp rfl GC.g (passes0 (E := EN)) (pv 1))))), ?_⟩
  refine ⟨_, rfl, t, _, rfl, .inr (SqT.of ht), rfl, _, rfl, ?_⟩
  have hne : ¬ V.int xs.length = V.int 0 := fun z => by
    injection z with z
    have := hc.1
    omega
  rw [decide_eq_false hne]
  refine iteF ⟨_, rfl, t, rfl, ⟨_, SqT.of ht⟩, fun D hD => ?_⟩
  refine lc_by (R := fun j o H' => ∃ n v, gs[j]? = some n ∧ o = some v ∧ NetV Cn H' v n.2.1 n.2.2.1 n.2.2.2) (walk_tup (SqT.of ht)) hD (fun i x H1 hi hx p1 => ?_) (fun H1 p1 => ?_)
  · rw [hc.1] at hi
    obtain ⟨v, hv, cv⟩ := hc.2 i gs[i] (by simp [hi])
    rw [hx] at hv
    cases hv
    have cv1 := cv.ext (Ex.l p1.1)
    have cv2 := cv1
    obtain ⟨o, C1, dx, n, rfl, hC, ho, N, _⟩ := cv1
    refine ⟨rfl, _, rfl, o, C1, dx, _, rfl, hC, ho, _, _, _, _, _, rfl, cv2, fun n' N' => ?_⟩
    refine p1.yes (fun j o H H' e ⟨n, v, a1, a2, a3⟩ => ⟨n, v, a1, a2, a3.ext e⟩) hD (Ex.refl _) ⟨gs[i], n', by simp [hi], rfl, N'⟩ ?_
    exact Nat.lt_of_lt_of_le hi (Nat.le_trans l1 (by decide))
  · obtain ⟨e, outs, hl, hDl, ho⟩ := p1
    rw [hc.1] at hl
    refine ⟨_, rfl, D, _, rfl, .inr (SqL.of hDl), ?_⟩
    refine ⟨gs.map (·.2), p, q, r, ⟨?_, fun i n hn => ?_⟩, by simpa using l1, Bl', fun z a b c H2 e2 => hQ z a b c H2 (e.trans e2)⟩
    · have e0 : outs.filterMap id = outs.filterMap id := rfl
      have : ∀ l : List (Option V), (∀ o ∈ l, o.isSome = true) → (l.filterMap id).length = l.length := fun l => by
        induction l with
        | nil => intro _; rfl
        | cons a l ih =>
          intro h
          obtain ⟨b, rfl⟩ := Option.isSome_iff_exists.mp (h a (by simp))
          simp [ih fun o ho => h o (by simp [ho])]
      rw [this outs fun o hm => ?_, hl, List.length_map]
      obtain ⟨j, hj, rfl⟩ := List.getElem_of_mem hm
      obtain ⟨_, _, _, h2, _⟩ := ho j _ (List.getElem?_eq_getElem hj)
      rw [h2]; rfl
    · rw [List.getElem?_map] at hn
      obtain ⟨m, hm, rfl⟩ := Option.map_eq_some_iff.mp hn
      have hj : i < outs.length := by
        rw [hl]
        exact (List.getElem?_eq_some_iff.mp hm).1
      obtain ⟨n', v, h1, h2, h3⟩ := ho i _ (List.getElem?_eq_getElem hj)
      rw [hm] at h1
      cases h1
      refine ⟨v, ?_, h3⟩
      have hall : outs = (outs.filterMap id).map some := by
        have : ∀ l : List (Option V), (∀ o ∈ l, o.isSome = true) → l = (l.filterMap id).map some := fun l => by
          induction l with
          | nil => intro _; rfl
          | cons a l ih =>
            intro h
            obtain ⟨b, rfl⟩ := Option.isSome_iff_exists.mp (h a (by simp))
            simp only [List.filterMap_cons, id_eq, List.map_cons]
            rw [← ih fun o ho => h o (by simp [ho])]
        refine this outs fun o hm => ?_
        obtain ⟨j, hj, rfl⟩ := List.getElem_of_mem hm
        obtain ⟨_, _, _, h2, _⟩ := ho j _ (List.getElem?_eq_getElem hj)
        rw [h2]; rfl
      have h4 : outs[i]? = some (some v) := by rw [List.getElem?_eq_getElem hj, h2]
      rw [hall, List.getElem?_map] at h4
      obtain ⟨u, hu, hu2⟩ := Option.map_eq_some_iff.mp h4
      cases hu2
      exact hu
end
end Wk
end
section
set_option maxHeartbeats 4000000
/-! woven_by. -/
namespace Wk
open PySem PySem.Spec PyProof.Rows L2 Cl TL
theorem netOf {K : PySem.W.Frag} {C : Addr} {H : Hp} {v : V} {a b c : Int} (N : NetV C H v a b c) : Gf.NetOf K C H v a b c := by
  obtain ⟨ok, l1, l2, l3⟩ := N.ok
  obtain ⟨n, dx, q, rfl, hn, hq, _⟩ := N
  have := ok.a
  have := ok.c
  exact ⟨n, dx, _, q, rfl, hn, rfl, rfl, SqT.of hq, by omega, by omega, by omega, by omega⟩
theorem spot_ix {a c x y : Int} {m : Nat} (s : Gf.Spot a c x y m) (ha : 0 < a) (hc : 0 < c) : (((a * c).toNat - (m + 1) : Nat) : Int) = y * a + x ∧ m + 1 ≤ (a * c).toNat := by
  obtain ⟨h1, h2, h3, h4, h5⟩ := s
  obtain ⟨i1, i2, _, _⟩ := cell_ix h1 h2 h3 h4
  have e : (c - 1 - y) * a = a * c - a - y * a := by grind
  rw [e] at h5
  omega
theorem lcCell_by {H1 : Hp} {D : Addr} {a c : Int} {g : TG} {te : TE} {vs : List Nat} {σ : L2.St} {R : RT} {Qd : Hp → Prop} (ha : 0 < a) (hc : 0 < c) (hn : H1 D = none)
    (hs : ∀ (i : Nat) (x y : Int) (t : Addr) H, i < (a * c).toNat → (i : Int) = y * a + x → 0 ≤ x → x < a → 0 ≤ y → y < c → LcP H1 D R i H → H t = none → g (.ref t) (wipe σ vs) (upd H t (.tup [.int x, .int y])) fun σ2 H2 => wipe σ2 vs = wipe σ vs ∧ te σ2 H2 fun z H4 => ∃ acc, H4 D = some (.lst acc) ∧ acc.length < sizeLine ∧ LcP H1 D R (i + 1) (upd H4 D (.lst (acc ++ [z]))))
    (hd : ∀ H, LcP H1 D R (a * c).toNat H → Qd H) : ∃ W : Nat → Hp → Prop, W (a * c).toNat (upd H1 D (.lst [])) ∧ (∀ H', W 0 H' → Qd H') ∧
      ∀ m x y t H', W (m + 1) H' → Gf.Spot a c x y m → H' t = none → g (.ref t) (wipe σ vs) (upd H' t (.tup [.int x, .int y])) fun σ2 H2 => wipe σ2 vs = wipe σ vs ∧ te σ2 H2 fun z H4 => ∃ acc, H4 D = some (.lst acc) ∧ acc.length < sizeLine ∧ W m (upd H4 D (.lst (acc ++ [z]))) := by
  refine ⟨fun m H => LcP H1 D R ((a * c).toNat - m) H, ?_, fun H' h => hd H' h, fun m x y t H' h s nt => ?_⟩
  · show LcP H1 D R ((a * c).toNat - (a * c).toNat) _
    rw [Nat.sub_self]
    exact LcP.start hn
  · obtain ⟨e, l⟩ := spot_ix s ha hc
    have := hs _ x y t H' (by omega) e s.1 s.2.1 s.2.2.1 s.2.2.2.1 h nt
    have e2 : (a * c).toNat - (m + 1) + 1 = (a * c).toNat - m := by omega
    rwa [e2] at this
theorem scWovBy : FnScope ["net", "choose", "place"] ["net", "choose"] (defScope sWovBy) := ⟨rfl, rfl, rfl, by decide +kernel, rfl, by decide +kernel, by decide +kernel⟩
def spWovBy (P : Program) (w : World) (K : PySem.W.Frag) (mg : Str → Option Value) (base : Heap) (k : Nat) (Cn C : Addr) : Sp := fun vs H Q _ => ∃ (v u : V) (a b c : Int) (g : Int → Int → Nat) (φ : Int → Int → V), vs = [v, u] ∧ NetV Cn H v a b c ∧ CloOk P w K mg base k H u φ ∧ (∀ x y, 0 ≤ x → x < a → 0 ≤ y → y < c → φ x y = .str (mkS [g x y])) ∧ PerN a b c g ∧ (∀ x y, Letter (g x y)) ∧
  ∀ z H' a' b' c', Ex H H' → CarV Cn [C] H' z g a' b' c' → a' * c' ≤ a * c → Q z H'
abbrev tClo (P : Program) (w : World) (K : PySem.W.Frag) (mg : Str → Option Value) (base : Heap) (k i : Nat) (te : TE) : TE := fun σ H Q => ∃ u φ, σ[i]? = some (some u) ∧ CloOk P w K mg base k H u φ ∧ te σ H fun z H1 => ∃ t a b, z = .ref t ∧ Ex H H1 ∧ H1 t = some (.tup [.int a, .int b]) ∧ ∀ H2, Ex H1 H2 → Q (φ a b) H2
section
variable {P : Program} {w : World} {K : PySem.W.Frag} {mg : Str → Option Value} {base : Heap} {f fA fN fI fB fC fS fP fD fK fL Cn C D M : Addr} {Cs : List Addr} {fd fdN : FuncData} {k : Nat}
theorem ok_wovBy (F : FD K "woven_by" "woven_by" sWovBy f fd) (B : Bl mg) (T : NetF K mg Cn) (FC : Gf.CellFn K fC) (MC : Meth K Cn "cell" fC) (FW : FnR P w K mg base C0 7 fL (spWovInit Cn C)) (mk : Mk K C fL) (gW : mg "Woven" = some (.ref C)) (hk : k ≤ 8) :
    FnOk P w K mg base C0 9 f fd ["net", "choose"] (spWovBy P w K mg base k Cn C) := by
  refine okOf F scWovBy (fun vs H Q E h => ?_) fun cdv A outer s H vs Q E hr h => ?_
  · obtain ⟨_, _, _, _, _, _, _, rfl, _⟩ := h; rfl
  obtain ⟨v, u, a, b, c, g, φ, rfl, N, cl, hφ, per, hL, hQ⟩ := h
  obtain ⟨ok, l1, l2, l3⟩ := N.ok
  have a0 := ok.a
  have c0 := ok.c
  refine ⟨_, pss_one (ps_ret (StX.pe_makeR mk FW hr rfl gW (passes0 (E := EN)) (pa_cons (pv 0) (pa_cons (pe_join pe_str (Gf.pe_lcCell (nown := [("place", 2)]) (g := gName 2) FC T.kl.cl MC T.na B.range rfl hr.depth (pv 0) scWovBy.nd (blkOk_by (N := ["net", "choose", "place"]) (sc := defScope sWovBy) (by decide +kernel))
      (fun _ _ _ _ _ => pg_name (i := 2) scWovBy.nd rfl (Or.inl rfl)) (fun _ _ _ _ _ => show PE _ _ (tClo P w K mg base k 1 (tVar 2)) from pe_clo (k := k) (i := 1) (hr.mono hk) rfl (by first | exact .inl rfl | exact .inr (.inl rfl) | exact .inr (.inr rfl)) (pv 2)))) pa_nil)))), ?_⟩
  refine ⟨_, rfl, ⟨_, rfl⟩, _, rfl, a, b, c, netOf N, fun D hD => ?_⟩
  refine lcCell_by (R := RTxt a c g) a0 c0 hD (fun i x y t H1 hi hix x0 x1 y0 y1 p nt => ?_) (fun H1 p => ?_)
  · obtain ⟨_, _, m1, m2⟩ := cell_ix x0 x1 y0 y1
    have e1 : Ex H1 (upd H1 t (.tup [.int x, .int y])) := Ex.upd nt
    refine ⟨rfl, u, φ, rfl, cl.ext (p.1.trans e1), _, rfl, t, x, y, rfl, Ex.refl _, upd_same, fun H2 e2 => ?_⟩
    refine p.yes rtxt_mono hD (e1.trans e2) ⟨hi, ?_⟩ ?_
    · rw [hix, m1, m2, hφ x y x0 x1 y0 y1]
    · show i < 2 ^ 24
      omega
  · refine ⟨_, D, _, rfl, rfl, .inl (SqL.of (rtxt_list p)), join_ok (by rw [txt_len]; omega), ?_⟩
    rw [join_signs]
    intro x dx2 nx nd ne
    have e5 : Ex H1 (upd (upd H1 dx2 (.own x)) x (.ins C dx2 [])) := made_ext nx nd (fun b u _ h => h)
    refine ⟨x, dx2, _, a, b, c, g, rfl, upd_same, N.ext (Ex.l (p.1.trans e5)), per, hL, fun H6 a2 b2 c2 e6 cv2 hz2 => ⟨rfl, ?_⟩⟩
    exact hQ _ H6 a2 b2 c2 (p.1.trans (made_ext nx nd e6)) cv2 hz2
end
end Wk
end
section
set_option maxHeartbeats 4000000
/-! Defs that hand a lambda on; first_unlike, overlay. -/
namespace Wk
open PySem PySem.Spec PyProof.Rows L2 Cl TL LamX
/-- the instances and the tuples stay -/
def ExtI (H H' : Hp) : Prop := ∀ b o, H b = some o → ((∃ C dx fs, o = .ins C dx fs) ∨ ∃ xs, o = .tup xs) → H' b = some o
theorem ExtI.ofN {H H' : Hp} (e : ExtN H H') : ExtI H H' := fun b o h q => e b o h fun ps z => by
  subst z
  rcases q with ⟨_, _, _, z⟩ | ⟨_, z⟩ <;> cases z
theorem ExtI.ofU {H H' : Hp} (e : Unf H H') : ExtI H H' := fun b o h q => e b o h fun o1 u z => by
  subst z
  rcases q with ⟨_, _, _, z⟩ | ⟨_, z⟩ <;> cases z
theorem NetV.extI {C : Addr} {H H' : Hp} {v : V} {a b c : Int} (m : NetV C H v a b c) (e : ExtI H H') : NetV C H' v a b c := by
  obtain ⟨n, dx, q, h1, h2, h3, h4⟩ := m
  exact ⟨n, dx, q, h1, e _ _ h2 (.inl ⟨_, _, _, rfl⟩), e _ _ h3 (.inr ⟨_, rfl⟩), h4⟩
theorem CarV.extI {Cn : Addr} {Cs : List Addr} {H H' : Hp} {v : V} {g : Int → Int → Nat} {a b c : Int} (m : CarV Cn Cs H v g a b c) (e : ExtI H H') : CarV Cn Cs H' v g a b c := by
  obtain ⟨o, C, dx, n, h1, h2, h3, h4, h5⟩ := m
  exact ⟨o, C, dx, n, h1, h2, e _ _ h3 (.inl ⟨_, _, _, rfl⟩), h4.extI e, h5⟩
theorem MotV.extI {C : Addr} {H H' : Hp} {v : V} {k : Str} {x y : Int} (m : MotV C H v k x y) (e : ExtI H H') : MotV C H' v k x y := by
  obtain ⟨o, dx, t, h1, h2, h3⟩ := m
  exact ⟨o, dx, t, h1, e _ _ h2 (.inl ⟨_, _, _, rfl⟩), e _ _ h3 (.inr ⟨_, rfl⟩)⟩
/-- the code table of a def that makes lambdas -/
def LamD (base : Heap) (mg : Str → Option Value) (T : List (Addr × Str)) (q : Str) (fd : FuncData) : Prop := ∃ c P, fd.code = .ref c ∧ TabB base mg c P ∧ (P, q) ∈ T ∧ ∀ p ∈ T, p.1 = P → p.2 = q
section
variable {P : Program} {w : World} {K : PySem.W.Frag} {mg : Str → Option Value} {base : Heap} {x qual : Str} {params : Arguments} {body : List Stmt} {scope : Scope} {dvs : List V} {kws : List (Str × V)} {f c : Addr} {fd : FuncData} {N ps : List Str} {k : Nat} {sp : Sp}
theorem okOfL (F : FunD K x qual params body scope dvs kws f fd) (hc : fd.code = .ref c) (S : FnScope N ps scope) (len : ∀ vs H Q E, sp vs H Q E → vs.length = ps.length)
    (hbody : ∀ (A : Around) (outer : List Env) (s : Shared) (H : Hp) (vs : List V) (Q : VK) (E : XK), Room k (A.deeper (envOfC qual scope s.heap.objs.size f (.ref c))) → sp vs H Q E →
      ∃ t, PSs (cxOf C0 P w K mg base N qual scope f (.ref c) A outer s H E).nox body t ∧ t { nx := fun _ H' => Q .non H', rt := Q } (start N vs) H) : FnOk P w K mg base C0 (k + 1) f fd ps sp := by
  obtain ⟨oc, od, dV, kV, doc, pm, an, cdv, ct, osl, rfl, lk, hcd, _, _⟩ := F.ex
  obtain rfl : cdv = .ref c := hc
  exact fn_of lk hcd S len fun A outer s H vs Q E hr h => let ⟨t, h1, h2⟩ := hbody A outer s H vs Q E hr h; ⟨t, h1.nox, h2⟩
end
theorem noCell {l : List (Str × NameKind)} (h : (l.all fun p => match p.2 with | .cell => false | _ => true) = true) {y x : Str} {b : Prop} (e : l.lookup y = some .cell) : y = x ∧ b :=
  absurd (List.all_eq_true.mp h _ (PySem.mem_of_lookup e)) (fun z => Bool.noConfusion z)
def frOk (sc outer : Scope) : Bool := sc.names.all fun p => match p.2 with
  | .free => (match outer.names.lookup p.1 with
    | some .cell => true
    | some .free => true
    | _ => false)
  | _ => true
theorem frOk_ok {sc outer : Scope} (h : frOk sc outer = true) : ∀ y ∈ sc.names, y.2 = .free → outer.names.lookup y.1 = some .cell ∨ outer.names.lookup y.1 = some .free := fun y hy e => by
  have := List.all_eq_true.mp h y hy
  rw [e] at this
  dsimp only at this
  cases hl : outer.names.lookup y.1 with
  | none => rw [hl] at this; cases this
  | some k =>
    rw [hl] at this
    cases k <;> first | exact .inl rfl | exact .inr rfl | cases this
/-! ### first_unlike -/
theorem scUnlike : FnScope ["colours", "clear", "colour"] ["colours", "clear"] (defScope sUnlike) := ⟨rfl, rfl, rfl, by decide +kernel, rfl, by decide +kernel, by decide +kernel⟩
def unlike (l : List Nat) (k : Nat) : Nat := (l.find? fun n => decide (n ≠ k)).getD k
def spUnlike : Sp := fun vs H Q _ => ∃ (D : Addr) (l : List Nat) (k : Nat), vs = [.ref D, .str (mkS [k])] ∧ H D = some (.lst (l.map fun n => V.str (mkS [n]))) ∧ Q (.str (mkS [unlike l k])) H
/-! ### overlay -/
/-- what is seen: top where it is not clear, else below -/
def ovG (g1 g2 : Int → Int → Nat) (k : Nat) : Int → Int → Nat := fun x y => if g1 x y = k then g2 x y else g1 x y
theorem scOver : FnScope ["top", "below", "clear", "net"] ["top", "below", "clear"] (defScope sOver) := ⟨rfl, rfl, rfl, by decide +kernel, rfl, by decide +kernel, by decide +kernel⟩
def spOver (T : List (Addr × Str)) (Cn C : Addr) (Cs : List Addr) : Sp := fun vs H Q _ => ∃ (v u : V) (g1 g2 : Int → Int → Nat) (a b c a' b' c' p q r : Int) (k : Nat), vs = [v, u, .str (mkS [k])] ∧ Letter k ∧ Tabs T H ∧ CarV Cn Cs H v g1 a b c ∧ CarV Cn Cs H u g2 a' b' c' ∧ Below [(a, b, c), (a', b', c')] p q r ∧
  ∀ z H' a2 b2 c2, ExtN H H' → Tabs T H' → CarV Cn [C] H' z (ovG g1 g2 k) a2 b2 c2 → Q z H'
theorem per_ov {g1 g2 : Int → Int → Nat} {k : Nat} {u v : Int} (h1 : Mn.Per g1 u v) (h2 : Mn.Per g2 u v) : Mn.Per (ovG g1 g2 k) u v := fun x y => by
  unfold ovG
  rw [h1 x y, h2 x y]
section
variable {P : Program} {w : World} {K : PySem.W.Frag} {mg : Str → Option Value} {base : Heap} {f fA fN fI fB fC fS fP fD fK fL fW fO Cn C D M : Addr} {Cs : List Addr} {fd fdN fdW : FuncData} {k : Nat} {T : List (Addr × Str)}
theorem ok_unlike (F : FD K "first_unlike" "first_unlike" sUnlike f fd) : FnR P w K mg base C0 1 f spUnlike := by
  refine rawOf (okOf F scUnlike (fun vs H Q E h => ?_) fun cdv A outer s H vs Q E hr h => ?_) (F.bindsN fun _ _ _ _ _ _ us hl => match us, hl with | [_, _], _ => rfl)
  · obtain ⟨_, _, _, rfl, _⟩ := h; rfl
  obtain ⟨D, l, k, rfl, hD, hQ⟩ := h
  refine ⟨_, pss_cons (ps_for PassesOwn.never rfl (pi_list (pv 0)) (pg_name (i := 2) scUnlike.nd rfl (Or.inl rfl)) (pss_one (ps_if (pt_cmpR op_ne (pv 2) (pv 1) (nomark _)) (pss_one (ps_ret (pv 2))) pss_nil))) (pss_one (ps_ret (pv 1))), ?_⟩
  refine ⟨_, rfl, D, rfl, ⟨_, SqL.of hD⟩, ?_⟩
  have hq : ∀ (i : Nat) (x : V), (l.map fun n => V.str (mkS [n]))[i]? = some x → ∃ n, l[i]? = some n ∧ x = .str (mkS [n]) := fun i x h => by
    rw [List.getElem?_map] at h
    obtain ⟨n, h1, rfl⟩ := Option.map_eq_some_iff.mp h
    exact ⟨n, h1, rfl⟩
  refine for_by (walk_lst (SqL.of hD)) (fun i σ H' => H' = H ∧ (∃ X, σ = [some (.ref D), some (.str (mkS [k])), X]) ∧ ∀ n ∈ l.take i, n = k) ⟨rfl, ⟨_, rfl⟩, fun n hn => by simp at hn⟩ (fun i σ H' _ h => h.1 ▸ Ex.refl _) ?_ ?_
  · rintro i x σ H' hi hx ⟨rfl, ⟨X, rfl⟩, ht⟩
    obtain ⟨n, hn, rfl⟩ := hq i x hx
    have hi : i < l.length := by simpa using hi
    refine ⟨_, rfl, _, rfl, rfl, _, rfl, ?_⟩
    by_cases h : n = k
    · subst h
      rw [decide_eq_true rfl]
      refine iteF ⟨rfl, ⟨_, rfl⟩, fun m hm => ?_⟩
      rw [List.take_succ, hn, List.mem_append] at hm
      rcases hm with h | h
      · exact ht m h
      · simpa using h
    · have hne : ¬ V.str (mkS [n]) = V.str (mkS [k]) := fun z => h (by
        injection z with z
        simpa using mkS_inj z)
      rw [decide_eq_false hne]
      refine iteT ⟨_, rfl, ?_⟩
      have e : unlike l k = n := by
        unfold unlike
        have e1 : l = l.take i ++ n :: l.drop (i + 1) := by
          rw [List.getElem?_eq_some_iff] at hn
          obtain ⟨h1, rfl⟩ := hn
          simp
        rw [e1, List.find?_append, List.find?_eq_none.mpr (fun m hm => by simp [ht m hm])]
        simp [h]
      rw [e] at hQ
      exact hQ
  · rintro σ H' ⟨rfl, ⟨X, rfl⟩, ht⟩
    rw [List.length_map, List.take_length] at ht
    refine ⟨_, rfl, ?_⟩
    have e : unlike l k = k := by
      unfold unlike
      rw [List.find?_eq_none.mpr (fun m hm => by simp [ht m hm])]
      rfl
    rw [e] at hQ
    exact hQ
theorem ok_over (F : FD K "overlay" "overlay" sOver f fd) (LD : LamD base mg T "overlay.<locals>.<lambda>" fd) (FC : FnR P w K mg base C0 2 fC spChkCol) (GC : Gb K mg "check_colour" fC) (FO : FnR P w K mg base C0 6 fO (spCommon Cn)) (GO : Gb K mg "common_net" fO)
    (FN : FnOk P w K mg base C0 1 fN fdN ["self"] (spCarNet Cn Cs)) (bN : L2.Binds K fdN ["self"] []) (PN : Ps K Cs "net" fN) (FS : FnR P w K mg base C0 4 fS (spSeen Cn Cs)) (MS : Ms K Cs "seen" fS)
    (FW : FnOk P w K mg base C0 9 fW fdW ["net", "choose"] (spWovBy P w K mg base 5 Cn C)) (bW : L2.Binds K fdW ["net", "choose"] []) (GW : Gb K mg "woven_by" fW) : KFn P w K mg base 10 f 2 ["clear"] (spOver T Cn C Cs) := by
  obtain ⟨cc, PP, hcode, TB, hT, hTu⟩ := LD
  refine ⟨fd, ["top", "below", "clear"], _, ?_, kbOf F 2 ["clear"] fun kV doc pm an cdv ct us ws l1 l2 => match us, ws, l1, l2 with | [_, _], [_], _, _ => rfl⟩
  refine okOfL F hcode scOver (fun vs H Q E h => ?_) fun A outer s H vs Q E hr h => ?_
  · obtain ⟨_, _, _, _, _, _, _, _, _, _, _, _, _, _, rfl, _⟩ := h; rfl
  obtain ⟨v, u, g1, g2, a, b, c, a', b', c', p, q, r, k, rfl, hk, ht, cv, cu, bl, hQ⟩ := h
  refine ⟨_, pss_cons (ps_expr (pe_g FC GC (hr.mono (by decide)) rfl (pa_cons (pv 2) pa_nil)))
    (pss_cons (ps_set (i := 3) scOver.nd rfl (Or.inl rfl) (pe_g FO GO (hr.mono (by decide)) rfl (pa_cons (pe_p (pv 0) PN FN bN (hr.mono (by decide))) (pa_cons (pe_p (pv 1) PN FN bN (hr.mono (by decide))) pa_nil))))
    (pss_one (ps_ret (pe_wov (k := 4) (T := T) (N := ["place", "below", "clear", "top"]) (x := "place") (fr := ["below", "clear", "top"]) (cel := false) (js := [1, 2, 0]) FW hr rfl GW.g GW.kp bW (pv 3) TB rfl hT hTu rfl
      ⟨rfl, rfl, rfl, rfl, by decide, rfl, fun _ _ => rfl, fun _ => rfl, fun _ => noCell (by decide), by decide, by decide⟩ (frOk_ok (outer := defScope sOver) (by decide +kernel)) rfl (fun _ _ _ _ _ _ => rfl)
      (fun A outer s H f c' hr2 => pe_ifExp (pt_cmpR op_eq (pe_m (pv 3) MS FS hr2 (pa_cons (pv 0) pa_nil)) (pv 2) (nomark _)) (pe_m (pv 1) MS FS hr2 (pa_cons (pv 0) pa_nil)) (pe_m (pv 3) MS FS hr2 (pa_cons (pv 0) pa_nil))) (fun _ => rfl))))), ?_⟩
  have cv0 := cv
  have cu0 := cu
  obtain ⟨o1, C1, dx1, n1, rfl, hC1, ho1, _, can1, hL1⟩ := cv0
  obtain ⟨o2, C2, dx2, n2, rfl, hC2, ho2, _, can2, hL2⟩ := cu0
  refine ⟨_, rfl, k, rfl, hk, ?_⟩
  refine ⟨_, rfl, o1, C1, dx1, _, rfl, hC1, ho1, _, g1, a, b, c, rfl, cv, fun m1 N1 => ?_⟩
  refine ⟨_, rfl, o2, C2, dx2, _, rfl, hC2, ho2, _, g2, a', b', c', rfl, cu, fun m2 N2 => ?_⟩
  refine ⟨_, p, q, r, .cons N1 (.cons N2 .nil), by show 2 ≤ 1000; decide, bl, fun z a3 b3 c3 H1 e1 N3 hin => ?_⟩
  refine ⟨_, rfl, ht.ext e1, fun H2 eN T2 => ⟨fun x y => .str (mkS [ovG g1 g2 k x y]), fun t x y HL eL hp => ?_, fun fl H3 e3 cl => ?_⟩⟩
  · have eh : ExtN H HL := (e1.n.trans eN).trans eL.n
    have hl1 := eh _ _ ho1 (fun ps z => by cases z)
    have hl2 := eh _ _ ho2 (fun ps z => by cases z)
    refine ⟨_, rfl, o1, C1, dx1, _, rfl, hC1, hl1, rfl, _, rfl, _, t, g1, a, b, c, x, y, rfl, cv.extI (.ofN eh), hp, fun H4 e4 => ?_⟩
    refine ⟨_, rfl, rfl, _, rfl, ?_⟩
    by_cases h : g1 x y = k
    · rw [h, decide_eq_true rfl]
      refine iteT ⟨_, rfl, o2, C2, dx2, _, rfl, hC2, e4 _ _ hl2, rfl, _, rfl, _, t, g2, a', b', c', x, y, rfl, (cu.extI (.ofN eh)).ext (Ex.l e4), e4 _ _ hp, fun H5 e5 => ⟨e4.trans e5, ?_⟩⟩
      show _ = V.str (mkS [ovG g1 g2 k x y])
      unfold ovG
      rw [if_pos h]
    · have hne : ¬ V.str (mkS [g1 x y]) = V.str (mkS [k]) := fun z => h (by
        injection z with z
        simpa using mkS_inj z)
      rw [decide_eq_false hne]
      refine iteF ⟨_, rfl, o1, C1, dx1, _, rfl, hC1, e4 _ _ hl1, rfl, _, rfl, _, t, g1, a, b, c, x, y, rfl, (cv.extI (.ofN eh)).ext (Ex.l e4), e4 _ _ hp, fun H5 e5 => ⟨e4.trans e5, ?_⟩⟩
      show _ = V.str (mkS [ovG g1 g2 k x y])
      unfold ovG
      rw [if_neg h]
  · refine ⟨_, _, a3, b3, c3, ovG g1 g2 k, _, rfl, N3.extI (.ofN (eN.trans e3.n)), cl, fun _ _ _ _ _ _ => rfl, fun u v h => ?_, fun x y => ?_, fun z' H4 a4 b4 c4 e4 cv4 _ => ⟨e4, fun H5 e5 u5 => ?_⟩⟩
    · have h2 := (hin u v).mp h
      exact per_ov ((can1.per u v).mp (h2 (a, b, c) (by simp))) ((can2.per u v).mp (h2 (a', b', c') (by simp)))
    · unfold ovG
      split
      · exact hL2 x y
      · exact hL1 x y
    · exact hQ z' H5 a4 b4 c4 ((e1.n.trans eN).trans e5.n) (T2.ext e5) (cv4.extI (.ofU u5))
end
end Wk
end
section
set_option maxHeartbeats 4000000
/-! check_block, enlarged. -/
namespace Wk
open PySem PySem.Spec PyProof.Rows L2 Cl TL LamX
theorem ixT {X : Cx} {K : PySem.W.Frag} (h : X.K = K) : IxR X (rIxT K) := h ▸ ix_tup
theorem scChkBlk : FnScope ["width", "height"] ["width", "height"] (defScope sChkBlk) := ⟨rfl, rfl, rfl, by decide +kernel, rfl, by decide +kernel, by decide +kernel⟩
def spChkBlk : Sp := fun vs H Q _ => ∃ (i j : Int), vs = [.int i, .int j] ∧ 1 ≤ i ∧ 1 ≤ j ∧ Q .non H
/-- the enlarged colouring -/
def enlG (g : Int → Int → Nat) (w h : Int) : Int → Int → Nat := fun x y => g (x / w) (y / h)
theorem enl_per {g : Int → Int → Nat} {a b c w h : Int} (per : PerN a b c g) (hw : 0 < w) (hh : 0 < h) : PerN (a * w) (b * w) (c * h) (enlG g w h) := by
  rintro u v ⟨k, m, rfl, rfl⟩ x y
  unfold enlG
  have e1 : (x + (k * (b * w) + m * (a * w))) / w = x / w + (k * b + m * a) := by
    rw [show k * (b * w) + m * (a * w) = (k * b + m * a) * w by grind, Int.add_mul_ediv_right _ _ (by omega)]
  have e2 : (y + k * (c * h)) / h = y / h + k * c := by
    rw [show k * (c * h) = (k * c) * h by grind, Int.add_mul_ediv_right _ _ (by omega)]
  rw [e1, e2]
  exact per _ _ ⟨k, m, rfl, rfl⟩ _ _
theorem scEnl : FnScope ["carpet", "width", "height", "a", "b", "c", "net"] ["carpet", "width", "height"] (defScope sEnl) := ⟨rfl, rfl, rfl, by decide +kernel, rfl, by decide +kernel, by decide +kernel⟩
def spEnl (T : List (Addr × Str)) (Cn C : Addr) (Cs : List Addr) : Sp := fun vs H Q _ => ∃ (v : V) (g : Int → Int → Nat) (a b c wd ht : Int), vs = [v, .int wd, .int ht] ∧ Tabs T H ∧ CarV Cn Cs H v g a b c ∧ 1 ≤ wd ∧ wd ≤ 1000 ∧ 1 ≤ ht ∧ ht ≤ 1000 ∧ (a * wd) * (c * ht) ≤ 2000 ∧
  ∀ z H' a2 b2 c2, ExtN H H' → Tabs T H' → CarV Cn [C] H' z (enlG g wd ht) a2 b2 c2 → Q z H'
section
variable {P : Program} {w : World} {K : PySem.W.Frag} {mg : Str → Option Value} {base : Heap} {f fA fN fI fB fC fS fP fD fK fL fW fO Cn C D M : Addr} {Cs : List Addr} {fd fdN fdS fdW fdP : FuncData} {k : Nat} {T : List (Addr × Str)}
theorem ok_chkBlk (F : FD K "check_block" "check_block" sChkBlk f fd) (FC : FnR P w K mg base C0 2 fC spChkNum) (GC : Gb K mg "check_number" fC) : FnR P w K mg base C0 3 f spChkBlk := by
  refine rawOf (okOf F scChkBlk (fun vs H Q E h => ?_) fun cdv A outer s H vs Q E hr h => ?_) (F.bindsN fun _ _ _ _ _ _ us hl => match us, hl with | [_, _], _ => rfl)
  · obtain ⟨_, _, rfl, _⟩ := h; rfl
  obtain ⟨i, j, rfl, hi, hj, hQ⟩ := h
  refine ⟨_, pss_cons (ps_expr (pe_g FC GC hr rfl (pa_cons (pv 0) (pa_cons pe_int (pa_cons pe_non pa_nil))))) (pss_one (ps_expr (pe_g FC GC hr rfl (pa_cons (pv 1) (pa_cons pe_int (pa_cons pe_non pa_nil)))))), ?_⟩
  exact ⟨_, rfl, i, 1, rfl, hi, _, rfl, j, 1, rfl, hj, hQ⟩
theorem ok_enl (F : FD K "enlarged" "enlarged" sEnl f fd) (LD : LamD base mg T "enlarged.<locals>.<lambda>" fd) (NF : NetF K mg Cn) (FC : FnR P w K mg base C0 3 fC spChkBlk) (GC : Gb K mg "check_block" fC) (FI : FnR P w K mg base C0 3 fI (spNetInit Cn)) (mk : Mk K Cn fI) (MF : MostF mg)
    (FP : FnOk P w K mg base C0 1 fP fdP ["self"] (spNetNumbers Cn)) (bP : L2.Binds K fdP ["self"] []) (PP : Ps K [Cn] "numbers" fP) (FZ : FnOk P w K mg base C0 1 fD fdS ["self"] (spNetSize Cn)) (bZ : L2.Binds K fdS ["self"] []) (PZ : Ps K [Cn] "size" fD)
    (FN : FnOk P w K mg base C0 1 fN fdN ["self"] (spCarNet Cn Cs)) (bN : L2.Binds K fdN ["self"] []) (PN : Ps K Cs "net" fN) (FS : FnR P w K mg base C0 4 fS (spSeen Cn Cs)) (MS : Ms K Cs "seen" fS)
    (FW : FnOk P w K mg base C0 9 fW fdW ["net", "choose"] (spWovBy P w K mg base 5 Cn C)) (bW : L2.Binds K fdW ["net", "choose"] []) (GW : Gb K mg "woven_by" fW) : FnR P w K mg base C0 10 f (spEnl T Cn C Cs) := by
  obtain ⟨cc, PPt, hcode, TB, hT, hTu⟩ := LD
  obtain ⟨tm, gM⟩ := MF.g
  refine rawOf (okOfL F hcode scEnl (fun vs H Q E h => ?_) fun A outer s H vs Q E hr h => ?_) (F.bindsN fun _ _ _ _ _ _ us hl => match us, hl with | [_, _, _], _ => rfl)
  · obtain ⟨_, _, _, _, _, _, _, rfl, _⟩ := h; rfl
  obtain ⟨v, g, a, b, c, wd, ht, rfl, tb, cv, w1, w2, h1, h2, hsz, hQ⟩ := h
  refine ⟨_, pss_cons (ps_expr (pe_g FC GC (hr.mono (by decide)) rfl (pa_cons (pv 1) (pa_cons (pv 2) pa_nil))))
    (pss_cons (ps_asg (pe_p (pe_p (pv 0) PN FN bN (hr.mono (by decide))) PP FP bP (hr.mono (by decide))) (pg_tup rfl (pgs_cons (pg_name (i := 3) scEnl.nd rfl (Or.inl rfl)) (pgs_cons (pg_name (i := 4) scEnl.nd rfl (Or.inl rfl)) (pgs_cons (pg_name (i := 5) scEnl.nd rfl (Or.inl rfl)) pgs_nil)))))
    (pss_cons (ps_set (i := 6) scEnl.nd rfl (Or.inl rfl) (StX.pe_makeR mk FI (hr.mono (by decide)) rfl NF.g (passes0 (E := EN)) (pa_cons (pe_op op_mul (pv 3) (pv 1)) (pa_cons (pe_op op_mul (pv 4) (pv 1)) (pa_cons (pe_op op_mul (pv 5) (pv 2)) pa_nil)))))
    (pss_cons (ps_if (pt_cmpR op_gt (pe_p (pv 6) PZ FZ bZ (hr.mono (by decide))) (pe_glob (v := .int 2000) rfl gM ⟨_, rfl⟩) (nomark _)) pss_never pss_nil)
    (pss_one (ps_ret (pe_wov (k := 4) (T := T) (N := ["place", "carpet", "height", "width"]) (x := "place") (fr := ["carpet", "height", "width"]) (cel := false) (js := [0, 2, 1]) FW hr rfl GW.g GW.kp bW (pv 6) TB rfl hT hTu rfl
      ⟨rfl, rfl, rfl, rfl, by decide, rfl, fun _ _ => rfl, fun _ => rfl, fun _ => noCell (by decide), by decide, by decide⟩ (frOk_ok (outer := defScope sEnl) (by decide +kernel)) rfl (fun _ _ _ _ _ _ => rfl)
      (fun A outer s H f c' hr2 => pe_m (pv 1) MS FS hr2 (pa_cons (pe_tup (pa_cons (pe_op op_fdiv (pe_ix (ixT (K := K) rfl) (pv 0) pe_int (fun _ _ => rfl)) (pv 3)) (pa_cons (pe_op op_fdiv (pe_ix (ixT (K := K) rfl) (pv 0) pe_int (fun _ _ => rfl)) (pv 2)) pa_nil))) pa_nil)) (fun _ => rfl))))))), ?_⟩
  have cv0 := cv
  obtain ⟨o1, C1, dx1, n1, rfl, hC1, ho1, N, can1, hL1⟩ := cv0
  obtain ⟨ok, l1, l2, l3⟩ := N.ok
  have a0 := ok.a
  have b0 := ok.b0
  have ba := ok.ba
  have c0 := ok.c
  refine ⟨_, rfl, _, rfl, wd, ht, rfl, w1, h1, ?_⟩
  refine ⟨_, rfl, o1, C1, dx1, _, rfl, hC1, ho1, _, g, a, b, c, rfl, cv, fun m1 N1 => ?_⟩
  have N1' := N1
  obtain ⟨n', dn, q, rfl, hn, hq, _⟩ := N1'
  refine ⟨n', Cn, dn, _, rfl, List.mem_singleton.mpr rfl, hn, _, a, b, c, rfl, N1, fun q' hq' => ?_⟩
  refine ⟨q', _, rfl, SqT.of hq', rfl, _, _, rfl, _, _, rfl, _, _, rfl, rfl, ?_⟩
  have mA : 0 < a * wd := Int.mul_pos a0 (by omega)
  have mB : 0 ≤ b * wd := Int.mul_nonneg b0 (by omega)
  have mBA : b * wd < a * wd := Int.mul_lt_mul_of_pos_right ba (by omega)
  have mC : 0 < c * ht := Int.mul_pos c0 (by omega)
  refine ⟨_, rfl, _, rfl, _, _, rfl, rfl, .inr ⟨by omega, by omega⟩, _, rfl, _, rfl, _, _, rfl, rfl, .inr ⟨by omega, by omega⟩, _, rfl, _, rfl, _, _, rfl, rfl, .inr ⟨by omega, by omega⟩, ?_⟩
  intro x dx nx nd ne
  refine ⟨x, dx, a * wd, b * wd, c * ht, rfl, upd_same, ⟨by omega, by omega, by omega⟩, by omega, fun H1 e1 N2 => ⟨rfl, ?_⟩⟩
  have e01 := made_ext nx nd e1
  have N2' := N2
  obtain ⟨n2, dn2, q2, z2, hn2, hq2, _⟩ := N2'
  cases z2
  refine ⟨_, rfl, x, Cn, dn2, _, rfl, List.mem_singleton.mpr rfl, hn2, _, _, _, _, rfl, N2, _, _, rfl, rfl, _, rfl, ?_⟩
  rw [decide_eq_false (show ¬ (a * wd) * (c * ht) > 2000 by omega)]
  refine iteF ?_
  refine ⟨_, rfl, tb.ext e01, fun H2 eN T2 => ⟨fun x y => .str (mkS [enlG g wd ht x y]), fun t x y HL eL hp => ?_, fun fl H3 e3 cl => ?_⟩⟩
  · have eh : ExtN H HL := (e01.n.trans eN).trans eL.n
    have hl1 := eh _ _ ho1 (fun ps z => by cases z)
    refine ⟨_, rfl, o1, C1, dx1, _, rfl, hC1, hl1, rfl, ?_⟩
    refine ⟨_, rfl, t, _, _, _, rfl, rfl, SqT.of hp, atI_nat (j := 0) rfl, _, rfl, _, _, rfl, rfl, ⟨by omega, by omega⟩, ?_⟩
    refine ⟨_, rfl, t, _, _, _, rfl, rfl, SqT.of hp, atI_nat (j := 1) rfl, _, rfl, _, _, rfl, rfl, ⟨by omega, by omega⟩, ?_⟩
    refine ⟨by show 2 ≤ sizeLine; decide, fun t2 nt => ?_⟩
    have e4 : Ex HL (upd HL t2 (.tup [.int (x / wd), .int (y / ht)])) := Ex.upd nt
    exact ⟨_, t2, g, a, b, c, _, _, rfl, (cv.extI (.ofN eh)).ext (Ex.l e4), upd_same, fun H5 e5 => ⟨e4.trans e5, rfl⟩⟩
  · refine ⟨_, _, a * wd, b * wd, c * ht, enlG g wd ht, _, rfl, N2.extI (.ofN (eN.trans e3.n)), cl, fun _ _ _ _ _ _ => rfl, enl_per (Mn.Canon.pern can1) (by omega) (by omega), fun x y => hL1 _ _, fun z' H4 a4 b4 c4 e4 cv4 _ => ⟨e4, fun H5 e5 u5 => ?_⟩⟩
    exact hQ z' H5 a4 b4 c4 ((e01.n.trans eN).trans e5.n) (T2.ext e5) (cv4.extI (.ofU u5))
end
end Wk
end
section
set_option maxHeartbeats 4000000
/-! sampled, masked. -/
namespace Wk
open PySem PySem.Spec PyProof.Rows L2 Cl TL LamX
/-- the sampled colouring -/
def smpG (g : Int → Int → Nat) (w h sx sy : Int) : Int → Int → Nat := fun x y => g (sx + w * x) (sy + h * y)
/-- the net of the sample -/
theorem smp_net {a b c w h p q r : Int} (ok : Mn.Ok p q r) (hw : 0 < w) (hh : 0 < h) (hin : ∀ x y, Mn.In p q r x y ↔ Mn.In a b c x y ∧ Mn.In w 0 h x y) :
    Mn.Ok (p / w) (q / w) (r / h) ∧ (p / w) * (r / h) ≤ p * r ∧ ∀ u v, Mn.In (p / w) (q / w) (r / h) u v → Mn.In a b c (w * u) (h * v) := by
  have p0 := ok.a
  have q0 := ok.b0
  have qp := ok.ba
  have r0 := ok.c
  obtain ⟨k1, m1, e1, e2⟩ := ((hin p 0).mp Mn.in_a).2
  obtain ⟨k2, m2, e3, e4⟩ := ((hin q r).mp Mn.in_bc).2
  have dp : p = m1 * w := by rw [e1]; omega
  have dq : q = m2 * w := by rw [e3]; omega
  have f1 : p / w = m1 := by rw [dp, Int.mul_ediv_cancel _ (by omega)]
  have f2 : q / w = m2 := by rw [dq, Int.mul_ediv_cancel _ (by omega)]
  have f3 : r / h = k2 := by rw [e4, Int.mul_ediv_cancel _ (by omega)]
  rw [f1, f2, f3]
  have h1 : 0 < m1 := by
    rw [dp] at p0
    exact Int.pos_of_mul_pos_right (by rw [Int.mul_comm]; exact p0) hw
  have h2 : 0 ≤ m2 := by
    rw [dq] at q0
    by_cases hm : 0 ≤ m2
    · exact hm
    · have : m2 * w ≤ -1 * w := Int.mul_le_mul_of_nonneg_right (by omega) (by omega)
      omega
  have h3 : m2 < m1 := by
    rw [dq, dp] at qp
    exact Int.lt_of_mul_lt_mul_right qp (by omega)
  have h4 : 0 < k2 := by
    rw [e4] at r0
    exact Int.pos_of_mul_pos_right (by rw [Int.mul_comm]; exact r0) hh
  refine ⟨⟨h2, h3, by omega⟩, ?_, ?_⟩
  · have l1 : m1 ≤ p := by
      have := Int.mul_le_mul_of_nonneg_left (show 1 ≤ w by omega) (show 0 ≤ m1 by omega)
      rw [dp]; omega
    have l2 : k2 ≤ r := by
      have := Int.mul_le_mul_of_nonneg_left (show 1 ≤ h by omega) (show 0 ≤ k2 by omega)
      rw [e4]; omega
    exact Int.mul_le_mul l1 l2 (by omega) (by omega)
  · rintro u v ⟨i, j, rfl, rfl⟩
    refine ((hin _ _).mp ⟨i, j, ?_, ?_⟩).1
    · rw [dq, dp]; grind
    · rw [e4]; grind
theorem smp_per {g : Int → Int → Nat} {a b c p q r w h sx sy : Int} (per : PerN a b c g) (hin : ∀ u v, Mn.In p q r u v → Mn.In a b c (w * u) (h * v)) : PerN p q r (smpG g w h sx sy) := by
  intro u v hu x y
  unfold smpG
  rw [show sx + w * (x + u) = sx + w * x + w * u by grind, show sy + h * (y + v) = sy + h * y + h * v by grind]
  exact per _ _ (hin u v hu) _ _
theorem scSmp : FnScope ["carpet", "width", "height", "start", "a", "b", "c", "net"] ["carpet", "width", "height", "start"] (defScope sSmp) := ⟨rfl, rfl, rfl, by decide +kernel, rfl, by decide +kernel, by decide +kernel⟩
def spSmp (T : List (Addr × Str)) (Cn C : Addr) (Cs : List Addr) : Sp := fun vs H Q _ => ∃ (v : V) (t0 : Addr) (g : Int → Int → Nat) (a b c wd ht sx sy : Int), vs = [v, .int wd, .int ht, .ref t0] ∧ Tabs T H ∧ H t0 = some (.tup [.int sx, .int sy]) ∧ CarV Cn Cs H v g a b c ∧ 1 ≤ wd ∧ wd ≤ 1000 ∧ 1 ≤ ht ∧ ht ≤ 1000 ∧ (a * c) * (wd * ht) ≤ 1000000 ∧
  ∀ z H' a2 b2 c2, ExtN H H' → Tabs T H' → CarV Cn [C] H' z (smpG g wd ht sx sy) a2 b2 c2 → Q z H'
section
variable {P : Program} {w : World} {K : PySem.W.Frag} {mg : Str → Option Value} {base : Heap} {f fA fN fI fB fC fS fP fD fK fL fW fO Cn C D M : Addr} {Cs : List Addr} {fd fdN fdS fdW fdP : FuncData} {k : Nat} {T : List (Addr × Str)} {d0 : V}
theorem ok_smp (F : FunD K "sampled" "sampled" (defArgs sSmp) (defBody sSmp) (defScope sSmp) [] [("start", d0)] f fd) (LD : LamD base mg T "sampled.<locals>.<lambda>" fd) (NF : NetF K mg Cn) (FC : FnR P w K mg base C0 3 fC spChkBlk) (GC : Gb K mg "check_block" fC) (FQ : FnR P w K mg base C0 3 fO spChkPlace) (GQ : Gb K mg "check_place" fO)
    (FI : FnR P w K mg base C0 3 fI (spNetInit Cn)) (mk : Mk K Cn fI) (FA : FnR P w K mg base C0 5 fA (spAnd Cn)) (OA : Op1F K Cn (PySem.dunder (Operator.info .BitAnd).2) fA)
    (FP : FnOk P w K mg base C0 1 fP fdP ["self"] (spNetNumbers Cn)) (bP : L2.Binds K fdP ["self"] []) (PP : Ps K [Cn] "numbers" fP) (FPl : FnR P w K mg base C0 1 fD spPlus) (GPl : Gb K mg "plus" fD)
    (FN : FnOk P w K mg base C0 1 fN fdN ["self"] (spCarNet Cn Cs)) (bN : L2.Binds K fdN ["self"] []) (PN : Ps K Cs "net" fN) (FS : FnR P w K mg base C0 4 fS (spSeen Cn Cs)) (MS : Ms K Cs "seen" fS)
    (FW : FnOk P w K mg base C0 9 fW fdW ["net", "choose"] (spWovBy P w K mg base 5 Cn C)) (bW : L2.Binds K fdW ["net", "choose"] []) (GW : Gb K mg "woven_by" fW) : KFn P w K mg base 10 f 3 ["start"] (spSmp T Cn C Cs) := by
  obtain ⟨cc, PPt, hcode, TB, hT, hTu⟩ := LD
  have G : FnOk P w K mg base C0 10 f fd ["carpet", "width", "height", "start"] (spSmp T Cn C Cs) := by
    refine okOfL F hcode scSmp (fun vs H Q E h => ?_) fun A outer s H vs Q E hr h => ?_
    · obtain ⟨_, _, _, _, _, _, _, _, _, _, rfl, _⟩ := h; rfl
    obtain ⟨v, t0, g, a, b, c, wd, ht, sx, sy, rfl, tb, hst, cv, w1, w2, h1, h2, hsz, hQ⟩ := h
    refine ⟨_, pss_cons (ps_expr (pe_g FC GC (hr.mono (by decide)) rfl (pa_cons (pv 1) (pa_cons (pv 2) pa_nil))))
      (pss_cons (ps_expr (pe_g FQ GQ (hr.mono (by decide)) rfl (pa_cons (pv 3) pa_nil)))
      (pss_cons (ps_asg (pe_p (pe_op (op1 FA (hr.mono (by decide)) OA) (pe_p (pv 0) PN FN bN (hr.mono (by decide))) (StX.pe_makeR mk FI (hr.mono (by decide)) rfl NF.g (passes0 (E := EN)) (pa_cons (pv 1) (pa_cons pe_int (pa_cons (pv 2) pa_nil))))) PP FP bP (hr.mono (by decide)))
        (pg_tup rfl (pgs_cons (pg_name (i := 4) scSmp.nd rfl (Or.inl rfl)) (pgs_cons (pg_name (i := 5) scSmp.nd rfl (Or.inl rfl)) (pgs_cons (pg_name (i := 6) scSmp.nd rfl (Or.inl rfl)) pgs_nil)))))
      (pss_cons (ps_set (i := 7) scSmp.nd rfl (Or.inl rfl) (StX.pe_makeR mk FI (hr.mono (by decide)) rfl NF.g (passes0 (E := EN)) (pa_cons (pe_op op_fdiv (pv 4) (pv 1)) (pa_cons (pe_op op_fdiv (pv 5) (pv 1)) (pa_cons (pe_op op_fdiv (pv 6) (pv 2)) pa_nil)))))
      (pss_one (ps_ret (pe_wov (k := 4) (T := T) (N := ["place", "carpet", "height", "start", "width"]) (x := "place") (fr := ["carpet", "height", "start", "width"]) (cel := false) (js := [0, 2, 3, 1]) FW hr rfl GW.g GW.kp bW (pv 7) TB rfl hT hTu rfl
        ⟨rfl, rfl, rfl, rfl, by decide, rfl, fun _ _ => rfl, fun _ => rfl, fun _ => noCell (by decide), by decide, by decide⟩ (frOk_ok (outer := defScope sSmp) (by decide +kernel)) rfl (fun _ _ _ _ _ _ => rfl)
        (fun A outer s H f c' hr2 => pe_m (pv 1) MS FS hr2 (pa_cons (pe_g FPl GPl (hr2.mono (by decide)) rfl (pa_cons (pv 3) (pa_cons (pe_tup (pa_cons (pe_op op_mul (pv 4) (pe_ix (ixT (K := K) rfl) (pv 0) pe_int (fun _ _ => rfl))) (pa_cons (pe_op op_mul (pv 2) (pe_ix (ixT (K := K) rfl) (pv 0) pe_int (fun _ _ => rfl))) pa_nil))) pa_nil))) pa_nil)) (fun _ => rfl))))))), ?_⟩
    have cv0 := cv
    obtain ⟨o1, C1, dx1, n1, rfl, hC1, ho1, N, can1, hL1⟩ := cv0
    refine ⟨_, rfl, _, rfl, wd, ht, rfl, w1, h1, ?_⟩
    refine ⟨_, rfl, t0, sx, sy, rfl, hst, fun H0 e0 => ?_⟩
    refine ⟨_, rfl, o1, C1, dx1, _, rfl, hC1, e0 _ _ ho1, _, g, a, b, c, rfl, cv.ext (Ex.l e0), fun m1 N1 => ?_⟩
    refine ⟨_, rfl, _, rfl, ?_⟩
    intro x dx nx nd ne
    refine ⟨x, dx, wd, 0, ht, rfl, upd_same, ⟨by omega, by omega, by omega⟩, ?_, fun H1 e1 N2 => ⟨rfl, ?_⟩⟩
    · have := Int.mul_le_mul w2 h2 (by omega) (by omega)
      omega
    have e01 := e0.trans (made_ext nx nd e1)
    have N1b := N1.ext (Ex.l (made_ext nx nd e1))
    have Na := N1b
    have Nb := N2
    obtain ⟨na, da, qa, rfl, hna, _⟩ := Na
    obtain ⟨nb, db, qb, z2, hnb, _⟩ := Nb
    cases z2
    refine ⟨na, x, da, db, _, _, rfl, rfl, hna, hnb, _, _, a, b, c, wd, 0, ht, rfl, N1b, N2, hsz, fun z p q r H2 e2 N3 hin hsz3 => ?_⟩
    have N3' := N3
    obtain ⟨n3, d3, q3, rfl, hn3, hq3, _⟩ := N3'
    refine ⟨n3, Cn, d3, _, rfl, List.mem_singleton.mpr rfl, hn3, _, p, q, r, rfl, N3, fun q' hq' => ?_⟩
    refine ⟨q', _, rfl, SqT.of hq', rfl, _, _, rfl, _, _, rfl, _, _, rfl, rfl, ?_⟩
    obtain ⟨ok3, j1, j2, j3⟩ := N3.ok
    obtain ⟨okS, szS, inS⟩ := smp_net ok3 (by omega) (by omega) hin
    refine ⟨_, rfl, _, rfl, _, _, rfl, rfl, ⟨by omega, by omega⟩, _, rfl, _, rfl, _, _, rfl, rfl, ⟨by omega, by omega⟩, _, rfl, _, rfl, _, _, rfl, rfl, ⟨by omega, by omega⟩, ?_⟩
    intro x5 dx5 nx5 nd5 ne5
    refine ⟨x5, dx5, p / wd, q / wd, r / ht, rfl, upd_same, okS, by omega, fun H3 e3 N5 => ⟨rfl, ?_⟩⟩
    have e03 := (e01.trans e2).trans (made_ext nx5 nd5 e3)
    refine ⟨_, rfl, tb.ext e03, fun H4 eN T4 => ⟨fun x y => .str (mkS [smpG g wd ht sx sy x y]), fun t x y HL eL hp => ?_, fun fl H5 e5 cl => ?_⟩⟩
    · have eh : ExtN H HL := (e03.n.trans eN).trans eL.n
      have hl1 := eh _ _ ho1 (fun ps z => by cases z)
      have hst1 := eh _ _ hst (fun ps z => by cases z)
      refine ⟨_, rfl, o1, C1, dx1, _, rfl, hC1, hl1, rfl, _, rfl, ?_⟩
      refine ⟨_, rfl, _, rfl, t, _, _, _, rfl, rfl, SqT.of hp, atI_nat (j := 0) rfl, _, _, rfl, rfl, .inl ⟨by omega, by omega⟩, ?_⟩
      refine ⟨_, rfl, _, rfl, t, _, _, _, rfl, rfl, SqT.of hp, atI_nat (j := 1) rfl, _, _, rfl, rfl, .inl ⟨by omega, by omega⟩, ?_⟩
      refine ⟨by show 2 ≤ sizeLine; decide, fun t2 nt => ?_⟩
      have e6 : Ex HL (upd HL t2 (.tup [.int (wd * x), .int (ht * y)])) := Ex.upd nt
      refine ⟨t0, t2, sx, sy, _, _, rfl, e6 _ _ hst1, upd_same, fun t3 H7 e7 ht3 => ?_⟩
      exact ⟨_, t3, g, a, b, c, _, _, rfl, (cv.extI (.ofN eh)).ext (Ex.l (e6.trans e7)), ht3, fun H8 e8 => ⟨(e6.trans e7).trans e8, rfl⟩⟩
    · refine ⟨_, _, p / wd, q / wd, r / ht, smpG g wd ht sx sy, _, rfl, N5.extI (.ofN (eN.trans e5.n)), cl, fun _ _ _ _ _ _ => rfl, smp_per (Mn.Canon.pern can1) inS, fun x y => hL1 _ _, fun z' H6 a4 b4 c4 e6 cv4 _ => ⟨e6, fun H7 e7 u7 => ?_⟩⟩
      exact hQ z' H7 a4 b4 c4 ((e03.n.trans eN).trans e7.n) (T4.ext e7) (cv4.extI (.ofU u7))
  obtain ⟨gg, hb⟩ := kbOf0 (ps := ["carpet", "width", "height", "start"]) F 3 ["start"] (by simp) (fun D doc pm an cdv ct us ws l1 l2 => match us, ws, l1, l2 with | [_, _, _], [_], _, _ => rfl)
  exact ⟨fd, _, gg, G, hb⟩
end
end Wk
end
section
set_option maxHeartbeats 4000000
/-! masked. -/
namespace Wk
open PySem PySem.Spec PyProof.Rows L2 Cl TL LamX
/-- the masked colouring -/
def mskG (g1 g2 : Int → Int → Nat) (l : List Nat) (k : Nat) : Int → Int → Nat := fun x y => if g2 x y ∈ l then g1 x y else k
theorem per_msk {g1 g2 : Int → Int → Nat} {l : List Nat} {k : Nat} {u v : Int} (h1 : Mn.Per g1 u v) (h2 : Mn.Per g2 u v) : Mn.Per (mskG g1 g2 l k) u v := fun x y => by
  unfold mskG
  rw [h1 x y, h2 x y]
theorem scMsk : FnScope ["carpet", "mask", "shown", "blank", "net", "sign"] ["carpet", "mask", "shown", "blank"] (defScope sMsk) := ⟨rfl, rfl, rfl, by decide +kernel, rfl, by decide +kernel, by decide +kernel⟩
def spMsk (T : List (Addr × Str)) (Cn C : Addr) (Cs : List Addr) : Sp := fun vs H Q _ => ∃ (v u : V) (g1 g2 : Int → Int → Nat) (a b c a' b' c' p q r : Int) (l : List Nat) (k : Nat), vs = [v, u, .str (mkS l), .str (mkS [k])] ∧ Letter k ∧ l.length ≤ 26 ∧ (∀ n ∈ l, Letter n) ∧ Tabs T H ∧ CarV Cn Cs H v g1 a b c ∧ CarV Cn Cs H u g2 a' b' c' ∧ Below [(a, b, c), (a', b', c')] p q r ∧
  ∀ z H' a2 b2 c2, ExtN H H' → Tabs T H' → CarV Cn [C] H' z (mskG g1 g2 l k) a2 b2 c2 → Q z H'
section
variable {P : Program} {w : World} {K : PySem.W.Frag} {mg : Str → Option Value} {base : Heap} {f fA fN fI fB fC fS fP fD fK fL fW fO Cn C D M : Addr} {Cs : List Addr} {fd fdN fdW : FuncData} {k : Nat} {T : List (Addr × Str)}
theorem ok_msk (F : FD K "masked" "masked" sMsk f fd) (LD : LamD base mg T "masked.<locals>.<lambda>" fd) (B : Bl mg) (L : LetF mg) (FC : FnR P w K mg base C0 2 fC spChkCol) (GC : Gb K mg "check_colour" fC) (FO : FnR P w K mg base C0 6 fO (spCommon Cn)) (GO : Gb K mg "common_net" fO)
    (FN : FnOk P w K mg base C0 1 fN fdN ["self"] (spCarNet Cn Cs)) (bN : L2.Binds K fdN ["self"] []) (PN : Ps K Cs "net" fN) (FS : FnR P w K mg base C0 4 fS (spSeen Cn Cs)) (MS : Ms K Cs "seen" fS)
    (FW : FnOk P w K mg base C0 9 fW fdW ["net", "choose"] (spWovBy P w K mg base 5 Cn C)) (bW : L2.Binds K fdW ["net", "choose"] []) (GW : Gb K mg "woven_by" fW) : KFn P w K mg base 10 f 2 ["shown", "blank"] (spMsk T Cn C Cs) := by
  obtain ⟨cc, PP, hcode, TB, hT, hTu⟩ := LD
  obtain ⟨tk, gL⟩ := L.g
  refine ⟨fd, ["carpet", "mask", "shown", "blank"], _, ?_, kbOf F 2 ["shown", "blank"] fun kV doc pm an cdv ct us ws l1 l2 => match us, ws, l1, l2 with | [_, _], [_, _], _, _ => rfl⟩
  refine okOfL F hcode scMsk (fun vs H Q E h => ?_) fun A outer s H vs Q E hr h => ?_
  · obtain ⟨_, _, _, _, _, _, _, _, _, _, _, _, _, _, _, rfl, _⟩ := h; rfl
  obtain ⟨v, u, g1, g2, a, b, c, a', b', c', p, q, r, l, k, rfl, hk, hl, hll, ht, cv, cu, bl, hQ⟩ := h
  refine ⟨_, pss_cons (ps_if (PW.pt (pw_or (pt_not (pt_val (pe_callB call_isi rfl B.isinstance bIsi (pa_cons (pv 2) (pa_cons (pe_bltn (v := .ty "str") rfl B.str bS rfl) pa_nil)))))
      (pw_or (pt_cmpR op_gt (pe_callB call_len_str rfl B.len PySem.boot_len (pa_cons (pv 2) pa_nil)) (pe_callB call_len_str rfl B.len PySem.boot_len (pa_cons (pe_glob (v := .str letS) rfl gL ⟨_, rfl⟩) pa_nil)) (nomark _))
      (pw_or1 (pt_not (pt_val (pe_callB (cr_all rfl) rfl B.all bAll (pa_cons (pe_lc (own := [("sign", 5)]) (g := gName 5) (tt := tYes) rfl scMsk.nd (pi_str (pv 2)) (blkOk_by (N := ["carpet", "mask", "shown", "blank", "net", "sign"]) (sc := defScope sMsk) (by decide +kernel))
        (fun _ _ _ _ _ => pg_name (i := 5) scMsk.nd rfl (Or.inl rfl)) (fun _ _ _ _ _ => pts_nil) (fun _ _ _ _ _ => pe_cmpR op_in_sign (pv 5) (pe_glob (v := .str letS) rfl gL ⟨_, rfl⟩) rfl)) pa_nil)))))))) pss_never pss_nil)
    (pss_cons (ps_expr (pe_g FC GC (hr.mono (by decide)) rfl (pa_cons (pv 3) pa_nil)))
    (pss_cons (ps_set (i := 4) scMsk.nd rfl (Or.inl rfl) (pe_g FO GO (hr.mono (by decide)) rfl (pa_cons (pe_p (pv 0) PN FN bN (hr.mono (by decide))) (pa_cons (pe_p (pv 1) PN FN bN (hr.mono (by decide))) pa_nil))))
    (pss_one (ps_ret (pe_wov (k := 4) (T := T) (N := ["place", "blank", "carpet", "mask", "shown"]) (x := "place") (fr := ["blank", "carpet", "mask", "shown"]) (cel := false) (js := [3, 0, 1, 2]) FW hr rfl GW.g GW.kp bW (pv 4) TB rfl hT hTu rfl
      ⟨rfl, rfl, rfl, rfl, by decide, rfl, fun _ _ => rfl, fun _ => rfl, fun _ => noCell (by decide), by decide, by decide⟩ (frOk_ok (outer := defScope sMsk) (by decide +kernel)) rfl (fun _ _ _ _ _ _ => rfl)
      (fun A outer s H f c' hr2 => pe_ifExp (pt_cmpR op_in_sign (pe_m (pv 3) MS FS hr2 (pa_cons (pv 0) pa_nil)) (pv 4) rfl) (pe_m (pv 2) MS FS hr2 (pa_cons (pv 0) pa_nil)) (pv 1)) (fun _ => rfl)))))), ?_⟩
  have cv0 := cv
  have cu0 := cu
  obtain ⟨o1, C1, dx1, n1, rfl, hC1, ho1, _, can1, hL1⟩ := cv0
  obtain ⟨o2, C2, dx2, n2, rfl, hC2, ho2, _, can2, hL2⟩ := cu0
  refine ⟨_, rfl, _, _, _, _, true, rfl, .ty "str", .base (.str _), kit_ty (by decide +kernel), true, rfl, ?_⟩
  refine iteF ⟨_, rfl, _, rfl, by rw [mkS_len]; show _ ≤ 2 ^ 24; omega, _, rfl, by rw [let_mk, mkS_len]; decide, _, _, rfl, rfl, _, rfl, ?_⟩
  rw [mkS_len, let_mk, mkS_len, List.length_range', decide_eq_false (show ¬ (l.length : Int) > ((26 : Nat) : Int) by omega)]
  refine iteF ⟨_, rfl, _, rfl, fun D hD => ?_⟩
  refine lc_by (R := fun j o _ => j < l.length ∧ o = some (.bl true)) walk_str hD (fun i v H1 hi hv p1 => ?_) (fun H1 p1 => ?_)
  · obtain ⟨c, hc, rfl⟩ := hv
    refine ⟨rfl, _, rfl, c, _, rfl, rfl, ?_⟩
    rw [decide_eq_true (by rw [← let_mk]; exact (let_mem c).mpr (hll c (List.mem_of_getElem? hc)))]
    exact p1.yes (fun j o H H' _ r => r) hD (Ex.refl _) ⟨hi, rfl⟩ (Nat.lt_of_lt_of_le hi (Nat.le_trans hl (by decide)))
  obtain ⟨e1, outs, ho, hDl, hoo⟩ := p1
  have e2 : outs.filterMap id = (List.replicate l.length true).map V.bl := outs_some (ys := (List.replicate l.length true).map V.bl) (by simp [ho]) fun j o q => by
    obtain ⟨h1, h2⟩ := hoo j o q
    exact ⟨.bl true, by simp [h1], h2⟩
  rw [e2] at hDl
  refine ⟨D, _, rfl, SqL.of hDl, ?_⟩
  have hall : (List.replicate l.length true).all id = true := by simp
  rw [hall]
  refine ⟨_, rfl, iteF ?_⟩
  refine ⟨_, rfl, k, rfl, hk, ?_⟩
  refine ⟨_, rfl, o1, C1, dx1, _, rfl, hC1, e1 _ _ ho1, _, g1, a, b, c, rfl, cv.ext (Ex.l e1), fun m1 N1 => ?_⟩
  refine ⟨_, rfl, o2, C2, dx2, _, rfl, hC2, e1 _ _ ho2, _, g2, a', b', c', rfl, cu.ext (Ex.l e1), fun m2 N2 => ?_⟩
  refine ⟨_, p, q, r, .cons N1 (.cons N2 .nil), by show 2 ≤ 1000; decide, bl, fun z a3 b3 c3 H1' e1' N3 hin => ?_⟩
  have e01 := e1.trans e1'
  refine ⟨_, rfl, ht.ext e01, fun H2 eN T2 => ⟨fun x y => .str (mkS [mskG g1 g2 l k x y]), fun t x y HL eL hp => ?_, fun fl H3 e3 cl => ?_⟩⟩
  · have eh : ExtN H HL := (e01.n.trans eN).trans eL.n
    have hl1 := eh _ _ ho1 (fun ps z => by cases z)
    have hl2 := eh _ _ ho2 (fun ps z => by cases z)
    refine ⟨_, rfl, o2, C2, dx2, _, rfl, hC2, hl2, rfl, _, rfl, _, t, g2, a', b', c', x, y, rfl, cu.extI (.ofN eh), hp, fun H4 e4 => ?_⟩
    refine ⟨_, rfl, _, _, rfl, rfl, _, rfl, ?_⟩
    rw [mkS_list]
    refine ifD (fun h => ?_) fun h => ?_
    · refine ⟨_, rfl, o1, C1, dx1, _, rfl, hC1, e4 _ _ hl1, rfl, _, rfl, _, t, g1, a, b, c, x, y, rfl, (cv.extI (.ofN eh)).ext (Ex.l e4), e4 _ _ hp, fun H5 e5 => ⟨e4.trans e5, ?_⟩⟩
      show _ = V.str (mkS [mskG g1 g2 l k x y])
      unfold mskG
      rw [if_pos h]
    · refine ⟨_, rfl, e4, ?_⟩
      show _ = V.str (mkS [mskG g1 g2 l k x y])
      unfold mskG
      rw [if_neg h]
  · refine ⟨_, _, a3, b3, c3, mskG g1 g2 l k, _, rfl, N3.extI (.ofN (eN.trans e3.n)), cl, fun _ _ _ _ _ _ => rfl, fun u v h => ?_, fun x y => ?_, fun z' H4 a4 b4 c4 e4 cv4 _ => ⟨e4, fun H5 e5 u5 => ?_⟩⟩
    · have h2 := (hin u v).mp h
      exact per_msk ((can1.per u v).mp (h2 (a, b, c) (by simp))) ((can2.per u v).mp (h2 (a', b', c') (by simp)))
    · unfold mskG
      split
      · exact hL1 x y
      · exact hk
    · exact hQ z' H5 a4 b4 c4 ((e01.n.trans eN).trans e5.n) (T2.ext e5) (cv4.extI (.ofU u5))
end
end Wk
end
section
set_option maxHeartbeats 4000000
/-! is_table, recoloured. -/
namespace Wk
open PySem PySem.Spec PyProof.Rows L2 Cl TL LamX
theorem lcI_by {d : Addr} {o : Obj} {kvs : List (Key × V)} {H1 : Hp} {g : TG} {tt : TT} {te : TE} {vs : List Nat} {σ : L2.St} {D : Addr} {Qd : Hp → Prop} {R : RT} (h0 : H1 d = some (.frz o (.dK kvs))) (hn : H1 D = none)
    (hs : ∀ (i : Nat) (T : Addr) (k : Key) (v : V) H, kvs[i]? = some (k, v) → LcP H1 D R i H → H T = none → g (.ref T) (wipe σ vs) (upd H T (.tup [kV k, v])) fun σ2 H2 => wipe σ2 vs = wipe σ vs ∧ tt σ2 H2 fun b H3 =>
      if b = true then te σ2 H3 fun y H4 => ∃ acc, H4 D = some (.lst acc) ∧ acc.length < sizeLine ∧ LcP H1 D R (i + 1) (upd H4 D (.lst (acc ++ [y]))) else LcP H1 D R (i + 1) H3) (hd : ∀ H, LcP H1 D R kvs.length H → Qd H) :
    ∃ W : Nat → Nat → Hp → Prop, (∃ m, W 0 m (upd H1 D (.lst []))) ∧ ∀ i m H, W i m H →
      ((Iti d o kvs).stop i H ∧ Qd H) ∨ ((Iti d o kvs).go i H ∧ ∃ Nx : Hp → Prop, (∀ H', Nx H' → ∃ m', m' < m ∧ W (i + 1) m' H') ∧ ∀ x H', (Iti d o kvs).yld i H x H' → g x (wipe σ vs) H' fun σ2 H2 => wipe σ2 vs = wipe σ vs ∧ tt σ2 H2 fun b H3 =>
        if b = true then te σ2 H3 fun y H4 => ∃ acc, H4 D = some (.lst acc) ∧ acc.length < sizeLine ∧ Nx (upd H4 D (.lst (acc ++ [y]))) else Nx H3) := by
  refine ⟨fun i m H => m = kvs.length - i ∧ i ≤ kvs.length ∧ LcP H1 D R i H, ⟨kvs.length, by simp, Nat.zero_le _, LcP.start hn⟩, ?_⟩
  rintro i m H ⟨rfl, hi, p⟩
  by_cases hlt : i < kvs.length
  · refine .inr ⟨⟨p.1 _ _ h0, hlt⟩, LcP H1 D R (i + 1), fun H' p' => ⟨kvs.length - (i + 1), by omega, rfl, hlt, p'⟩, fun x H' y => ?_⟩
    obtain ⟨T, k, v, hk, rfl, nT, rfl⟩ := y
    exact hs i T k v _ hk p nT
  · have e : i = kvs.length := by omega
    subst e
    exact .inl ⟨⟨p.1 _ _ h0, Nat.le_refl _⟩, hd H p⟩
theorem ex_unlock {H H' : Hp} {d : Addr} {u : HO} {o : Obj} (h : H d = some u) (e : Ex (upd H d (.frz o u)) H') : Ex H (upd H' d u) := fun b x q => by
  by_cases hb : b = d
  · subst hb
    rw [upd_same, ← h]; exact q
  · rw [upd_ne hb]
    exact e _ _ (by rw [upd_ne hb]; exact q)
/-- a table of letters as a dict -/
def tblK (t : List (Nat × Nat)) : List (Key × V) := t.map fun p => (.inr (mkS [p.1]), .str (mkS [p.2]))
def app (t : List (Nat × Nat)) (n : Nat) : Nat := (t.lookup n).getD n
theorem tbl_val (t : List (Nat × Nat)) (n : Nat) : valV (tblK t) (.inr (mkS [n])) = (t.lookup n).map fun m => V.str (mkS [m]) := by
  unfold valV tblK
  induction t with
  | nil => rfl
  | cons p r ih =>
    obtain ⟨a, b⟩ := p
    rw [List.map_cons, List.lookup_cons]
    by_cases h : n = a
    · subst h
      rw [List.find?_cons_of_pos (by simp)]
      simp
    · have h1 : ¬ (Sum.inr (mkS [a]) : Key) = Sum.inr (mkS [n]) := fun z => h (by
        injection z with z
        simpa using (mkS_inj z).symm)
      rw [List.find?_cons_of_neg (by simpa using h1), ih]
      have : (n == a) = false := by simpa using h
      rw [this]
theorem mem_lk {t : List (Nat × Nat)} {n m : Nat} (h : t.lookup n = some m) : (n, m) ∈ t := by
  induction t with
  | nil => cases h
  | cons p r ih =>
    obtain ⟨a, b⟩ := p
    rw [List.lookup_cons] at h
    by_cases e : n = a
    · subst e
      simp at h
      subst h
      exact List.mem_cons_self
    · have : (n == a) = false := by simpa using e
      rw [this] at h
      exact List.mem_cons_of_mem _ (ih h)
theorem scIsTbl : FnScope ["value", "old", "new"] ["value"] (defScope sIsTbl) := ⟨rfl, rfl, rfl, by decide +kernel, rfl, by decide +kernel, by decide +kernel⟩
def spIsTbl : Sp := fun vs H Q _ => ∃ (d : Addr) (t : List (Nat × Nat)), vs = [.ref d] ∧ H d = some (.dK (tblK t)) ∧ t.length ≤ 1000 ∧ (∀ p ∈ t, Letter p.1 ∧ Letter p.2) ∧ ∀ H', Ex H H' → Q (.bl true) H'
theorem scRec : FnScope ["carpet", "table", "colour"] ["carpet", "table"] (defScope sRec) := ⟨rfl, rfl, rfl, by decide +kernel, rfl, by decide +kernel, by decide +kernel⟩
def recG (g : Int → Int → Nat) (t : List (Nat × Nat)) : Int → Int → Nat := fun x y => app t (g x y)
theorem app_let {t : List (Nat × Nat)} {n : Nat} (ht : ∀ p ∈ t, Letter p.1 ∧ Letter p.2) (hn : Letter n) : Letter (app t n) := by
  unfold app
  cases h : t.lookup n with
  | none => exact hn
  | some m => exact (ht _ (mem_lk h)).2
def spRec (Cn C : Addr) (Cs : List Addr) : Sp := fun vs H Q _ => ∃ (v : V) (d : Addr) (t : List (Nat × Nat)) (g : Int → Int → Nat) (a b c : Int), vs = [v, .ref d] ∧ H d = some (.dK (tblK t)) ∧ t.length ≤ 1000 ∧ (∀ p ∈ t, Letter p.1 ∧ Letter p.2) ∧ CarV Cn Cs H v g a b c ∧
  ∀ z H' a2 b2 c2, Ex H H' → CarV Cn [C] H' z (recG g t) a2 b2 c2 → Q z H'
theorem bDict : bootBuiltins "dict" = some (.type "dict") := by decide +kernel
section
variable {P : Program} {w : World} {K : PySem.W.Frag} {mg : Str → Option Value} {base : Heap} {f fA fN fI fB fC fS fP fD fK fL fW fO Cn C D M : Addr} {Cs : List Addr} {fd fdN fdW fdT : FuncData} {k : Nat} {T : List (Addr × Str)}
theorem ok_isTbl (F : FD K "is_table" "is_table" sIsTbl f fd) (B : Bl mg) (FC : FnR P w K mg base C0 1 fC spIsCol) (GC : Gb K mg "is_colour" fC) : FnR P w K mg base C0 2 f spIsTbl := by
  refine rawOf (okOf F scIsTbl (fun vs H Q E h => ?_) fun cdv A outer s H vs Q E hr h => ?_) (F.bindsN fun _ _ _ _ _ _ us hl => match us, hl with | [_], _ => rfl)
  · obtain ⟨_, _, rfl, _⟩ := h; rfl
  obtain ⟨d, t, rfl, hd, hl, ht, hQ⟩ := h
  refine ⟨_, pss_cons (ps_if (pt_not (pt_val (pe_callB call_isi rfl B.isinstance bIsi (pa_cons (pv 0) (pa_cons (pe_bltn (v := .ty "dict") rfl B.dict bDict rfl) pa_nil))))) pss_never pss_nil)
    (pss_one (ps_ret (pe_lock (pe_callB (cr_all rfl) rfl B.all bAll (pa_cons (pe_lc (own := [("old", 1), ("new", 2)]) (g := gTup K 2 (gCons (gName 1) (gCons (gName 2) gNil))) (tt := tYes) rfl scIsTbl.nd (pi_items (pv 0)) (blkOk_by (N := ["value", "old", "new"]) (sc := defScope sIsTbl) (by decide +kernel))
      (fun _ _ _ _ _ => pg_tup rfl (pgs_cons (pg_name (i := 1) scIsTbl.nd rfl (Or.inl rfl)) (pgs_cons (pg_name (i := 2) scIsTbl.nd rfl (Or.inl rfl)) pgs_nil))) (fun _ _ _ _ _ => pts_nil) (fun _ _ _ _ _ => pe_and (pe_g FC GC hr rfl (pa_cons (pv 1) pa_nil)) (pe_one (pe_g FC GC hr rfl (pa_cons (pv 2) pa_nil))))) pa_nil))))), ?_⟩
  refine ⟨_, rfl, _, _, _, _, true, rfl, .ty "dict", .base (.dK hd), kit_ty (by decide +kernel), true, rfl, iteF ?_⟩
  refine ⟨d, _, hd, trivial, fun od => ?_⟩
  refine ⟨_, rfl, d, od, tblK t, rfl, upd_same, fun D hD => ?_⟩
  refine lcI_by (R := fun j o _ => j < t.length ∧ o = some (.bl true)) upd_same hD (fun i T k v H1 hi p nT => ?_) (fun H1 p => ?_)
  · obtain ⟨q, hq, e⟩ : ∃ q, t[i]? = some q ∧ (k, v) = ((.inr (mkS [q.1]), .str (mkS [q.2])) : Key × V) := by
      unfold tblK at hi
      rw [List.getElem?_map] at hi
      obtain ⟨q, h1, h2⟩ := Option.map_eq_some_iff.mp hi
      exact ⟨q, h1, h2.symm⟩
    cases e
    obtain ⟨l1, l2⟩ := ht q (List.mem_of_getElem? hq)
    have hlt := (List.getElem?_eq_some_iff.mp hq).1
    have e1 : Ex H1 (upd H1 T (.tup [.str (mkS [q.1]), .str (mkS [q.2])])) := Ex.upd nT
    refine ⟨T, _, rfl, SqT.of upd_same, rfl, _, _, rfl, _, _, rfl, rfl, rfl, ?_⟩
    refine ⟨_, rfl, q.1, rfl, l1, true, rfl, ?_⟩
    refine iteT ⟨_, rfl, q.2, rfl, l2, ?_⟩
    exact p.yes (fun j o H H' _ r => r) hD e1 ⟨hlt, rfl⟩ (Nat.lt_of_lt_of_le hlt (Nat.le_trans hl (by decide)))
  · have hlen : (tblK t).length = t.length := by unfold tblK; rw [List.length_map]
    rw [hlen] at p
    obtain ⟨e, outs, ho, hDl, hoo⟩ := p
    have e2 : outs.filterMap id = (List.replicate t.length true).map V.bl := outs_some (ys := (List.replicate t.length true).map V.bl) (by simp [ho]) fun j o q => by
      obtain ⟨h1, h2⟩ := hoo j o q
      exact ⟨.bl true, by simp [h1], h2⟩
    rw [e2] at hDl
    refine ⟨D, _, rfl, SqL.of hDl, ?_⟩
    have : (List.replicate t.length true).all id = true := by simp
    rw [this]
    exact ⟨e _ _ upd_same, hQ _ (ex_unlock hd e)⟩
theorem ok_rec (F : FD K "recoloured" "recoloured" sRec f fd) (T : CarF K Cs) (FI : FnR P w K mg base C0 2 fI spIsTbl) (GI : Gb K mg "is_table" fI) (FN : FnOk P w K mg base C0 1 fN fdN ["self"] (spCarNet Cn Cs)) (bN : L2.Binds K fdN ["self"] []) (PN : Ps K Cs "net" fN)
    (FT : FnOk P w K mg base C0 1 fA fdT ["self"] (spCarText Cn Cs)) (bT : L2.Binds K fdT ["self"] []) (PT : Ps K Cs "text" fA) (FW : FnR P w K mg base C0 7 fL (spWovInit Cn C)) (mk : Mk K C fL) (gW : mg "Woven" = some (.ref C)) : FnR P w K mg base C0 9 f (spRec Cn C Cs) := by
  refine rawOf (okOf F scRec (fun vs H Q E h => ?_) fun cdv A outer s H vs Q E hr h => ?_) (F.bindsN fun _ _ _ _ _ _ us hl => match us, hl with | [_, _], _ => rfl)
  · obtain ⟨_, _, _, _, _, _, _, rfl, _⟩ := h; rfl
  obtain ⟨v, d, t, g, a, b, c, rfl, hd, hl, ht, cv, hQ⟩ := h
  have hu := hr.units
  refine ⟨_, pss_cons (ps_if (pt_not (pt_val (pe_g FI GI (hr.mono (by decide)) rfl (pa_cons (pv 1) pa_nil)))) pss_never pss_nil)
    (pss_one (ps_ret (StX.pe_makeR mk FW hr rfl gW (passes0 (E := EN)) (pa_cons (pe_p (pv 0) PN FN bN (hr.mono (by decide))) (pa_cons (pe_join pe_str (pe_lc (own := [("colour", 2)]) (g := gName 2) (tt := tYes) rfl scRec.nd (pi_str (pe_p (pv 0) PT FT bT (hr.mono (by decide)))) (blkOk_by (N := ["carpet", "table", "colour"]) (sc := defScope sRec) (by decide +kernel))
      (fun _ _ _ _ _ => pg_name (i := 2) scRec.nd rfl (Or.inl rfl)) (fun _ _ _ _ _ => pts_nil) (fun _ _ _ _ _ => pe_dget2 (Nat.lt_of_le_of_lt (Nat.add_le_add_left (by decide : 1 ≤ 64) _) hu) (pv 1) (pv 2) (pv 2) ⟨rfl, rfl, rfl, rfl⟩))) pa_nil))))), ?_⟩
  have cv0 := cv
  obtain ⟨o1, C1, dx1, n1, rfl, hC1, ho1, N, can1, hL1⟩ := cv0
  refine ⟨_, rfl, d, t, rfl, hd, hl, ht, fun H1 e1 => ?_⟩
  refine ⟨_, rfl, iteF ?_⟩
  have cv1 := cv.ext (Ex.l e1)
  refine ⟨_, rfl, o1, C1, dx1, _, rfl, hC1, e1 _ _ ho1, _, g, a, b, c, rfl, cv1, fun m1 N1 => ?_⟩
  obtain ⟨ok, l1, l2, l3⟩ := N1.ok
  have a0 := ok.a
  refine ⟨⟨_, rfl⟩, _, rfl, o1, C1, dx1, _, rfl, hC1, e1 _ _ ho1, _, g, a, b, c, rfl, cv1, _, rfl, fun D hD => ?_⟩
  have hd1 := e1 _ _ hd
  refine lc_by (R := RTxt a c (recG g t)) walk_str hD (fun i x H2 hi hx p => ?_) (fun H2 p => ?_)
  · obtain ⟨n, hn, rfl⟩ := hx
    rw [txt_len] at hi
    have en : n = g ((i : Int) % a) ((i : Int) / a) := by
      unfold txt at hn
      rw [List.getElem?_map, List.getElem?_range hi] at hn
      exact (Option.some.inj hn).symm
    have hd2 := p.1 _ _ hd1
    refine ⟨rfl, _, rfl, d, rfl, .inl ⟨_, .inl hd2⟩, _, rfl, _, rfl, _, .inl ⟨_, .inr (mkS [n]), .inl hd2, rfl, rfl⟩, ?_⟩
    rw [tbl_val]
    have ev : ((t.lookup n).map fun m => V.str (mkS [m])).getD (.str (mkS [n])) = .str (mkS [app t n]) := by
      unfold app
      cases t.lookup n <;> rfl
    rw [ev]
    refine p.yes rtxt_mono hD (Ex.refl _) ⟨hi, ?_⟩ ?_
    · rw [en]; rfl
    · show i < 2 ^ 24
      omega
  · rw [txt_len] at p
    refine ⟨_, D, _, rfl, rfl, .inl (SqL.of (rtxt_list p)), join_ok (by rw [txt_len]; omega), ?_⟩
    rw [join_signs]
    intro x dx2 nx nd ne
    have e5 : Ex H2 (upd (upd H2 dx2 (.own x)) x (.ins C dx2 [])) := made_ext nx nd (fun b u _ h => h)
    refine ⟨x, dx2, _, a, b, c, _, rfl, upd_same, N1.ext (Ex.l (p.1.trans e5)), fun u v hh x y => ?_, fun x y => app_let ht (hL1 x y), fun H6 a2 b2 c2 e6 cv2 hz2 => ⟨rfl, ?_⟩⟩
    · unfold recG
      rw [(can1.per u v).mp hh x y]
    · exact hQ _ H6 a2 b2 c2 ((e1.trans p.1).trans (made_ext nx nd e6)) cv2
end
end Wk
end
section
set_option maxHeartbeats 4000000
/-! layered. -/
namespace Wk
open PySem PySem.Spec PyProof.Rows L2 Cl TL LamX
/-- a def f(*v, k): called with values and the keywords ks -/
def FnSK (P : Program) (w : World) (K : PySem.W.Frag) (mg : Str → Option Value) (base : Heap) (k : Nat) (f : Addr) (ks : List Str) (sp : List V → Sp) : Prop :=
  ∀ (A : Around) (outer : List Env) (s : Shared) (H : Hp) (us ws : List Value) (vs zs : List V) (Q : VK) (E : XK), Room k A → Env0 P w K mg base A outer s H → Vals vs us → Vals zs ws → sp zs vs H Q E →
    codeAny (model P w) A (.call (.ref f) ⟨us, ks.zip ws⟩) (CR C0 outer P w H s Q E) s
section
variable {X : Cx} {k : Nat} {f : Addr} {ks : List Str} {sp : List V → Sp} {x : Str} {p pos : Pos} {e : Expr} {es : List Expr} {kws : List Keyword} {t tk : TA}
theorem pe_sk (F : FnSK X.prog X.w X.K X.mg X.base k f ks sp) (G : Gb X.K X.mg x f) (hr : Room k X.A) (hg : Gl X x) (ha : PA X (e :: es) t) (hkw : PK X kws tk)
    (hall : (backToKw pos (keywordEach kws X.env)).all (·.1.isSome) = true := by rfl) (hks : (backToKw pos (keywordEach kws X.env)).filterMap (·.1) = ks := by rfl)
    (hdb : (x == ("__debug__" : Str)) = false := by decide) (he : starEach (e :: es) X.env = (false, eval e X.env) :: starEach es X.env := by rfl)
    (hpl : ((backTo pos (starEach (e :: es) X.env)).any (·.1) || (backToKw pos (keywordEach kws X.env)).any (·.1.isNone)) = false := by rfl) :
    PE X (.Call (.Name x p) (e :: es) kws pos) (fun σ H Q => t σ H fun vs H1 => tk σ H1 fun zs H2 => sp zs vs H2 Q EN) := by
  refine ⟨fun pins s σ H Q I h => ?_⟩
  refine wpAny_Call_Name_kw (ld_glob I hg G.g ?_ hdb)
  refine PySem.W.callWith_KW (h₀ := X.base) I.ok.mod.kin G.kp hall (thn (ha.run pos pins s σ H _ I h) fun us s1 ⟨vs, H1, I1, r, q⟩ => ?_) hpl he
  refine thn (hkw.run pos pins s1 σ H1 _ I1 q) fun ws s2 ⟨zs, H2, I2, rz, q2⟩ => ⟨I2.kIn, ?_⟩
  rw [hks]
  refine wpAny_call (codeAny_mono (F X.A X.stack s2 H2 us ws vs zs Q EN hr I2.env0 r rz q2) fun r s' hq => ?_)
  cases r with
  | error e => exact (show False from hq).elim
  | ok fl =>
    cases fl with
    | ret u => exact I2.after hq
    | next => exact False.elim hq
    | brk => exact False.elim hq
    | cont => exact False.elim hq
end
section
variable {P : Program} {w : World} {K : PySem.W.Frag} {mg : Str → Option Value} {base : Heap} {x qual y z : Str} {params : Arguments} {body : List Stmt} {scope : Scope} {f c : Addr} {fd : FuncData} {N : List Str} {k n : Nat} {sp : Sp}
/-- def x(*z, y), called with n values; z's tuple is laid -/
theorem skOf (F : FunD K x qual params body scope [] [] f fd) (hc : fd.code = .ref c) (S : FnScope N [y, z] scope)
    (hb : ∀ (kV doc pm : Value) (an : Option Addr) (cdv ct v : Value) (us : List Value), us.length = n → bindArgs (PySem.W.fnOf x qual params body scope .none kV doc pm an cdv ct) ⟨us, [(y, v)]⟩ = (newTuple us >>= fun t => pure [(y, v), (z, t)]))
    (hbody : ∀ (A : Around) (outer : List Env) (s : Shared) (H : Hp) (vs : List V) (Q : VK) (E : XK), Room k (A.deeper (envOfC qual scope s.heap.objs.size f (.ref c))) → sp vs H Q E →
      ∃ t, PSs (cxOf C0 P w K mg base N qual scope f (.ref c) A outer s H E).nox body t ∧ t { nx := fun _ H' => Q .non H', rt := Q } (start N vs) H) :
    FnSK P w K mg base (k + 1) f [y] (fun zs vs H Q E => ∃ v, zs = [v] ∧ vs.length = n ∧ vs.length ≤ sizeLine ∧ ∀ p, H p = none → sp [v, .ref p] (upd H p (.tup vs)) Q E) := by
  obtain ⟨oc, od, dV, kV, doc, pm, an, cdv, ct, osl, rfl, lk, hcd, hD, _⟩ := F.ex
  obtain rfl : cdv = .ref c := hc
  obtain rfl : dV = .none := by
    rcases hD with ⟨_, h⟩ | ⟨h, _⟩
    · exact h
    · exact absurd rfl h
  intro A outer s H us ws vs zs Q E hr e0 r rz ⟨v, ez, hl, hz, hq⟩
  subst ez
  obtain ⟨wv, rfl, rv⟩ := L2.vals1 rz
  have hn : H s.heap.objs.size = none := e0.hok.fresh (Nat.le_refl _)
  refine StX.run_bnd lk hcd S hr e0 (G := fun xs H2 => ∃ p, H p = none ∧ xs = [v, V.ref p] ∧ H2 = upd H p (.tup vs)) (fun A' Ex Q' h => ?_) fun s2 H2 xs ⟨p, hp, ex, eH⟩ hr' => ?_
  · show wpAny _ _ (bindArgs _ ⟨us, [(y, wv)]⟩) _ _ _
    rw [hb kV doc pm an (.ref c) ct wv us (by rw [← r.length]; exact hl)]
    refine wpAny_bind (wpAny_newTuple (wpAny_pure ?_) (by rw [← r.length]; exact hz))
    have new : ObjOk P w (upd H s.heap.objs.size (.tup vs)) (s.heap.push ({ cls := .type "tuple", data := .seq us.toArray } : Obj)) s.heap.objs.size (.tup vs) := ⟨hz, us, r, ⟨_, Heap.get?_push_size _ rfl, rfl, _, rfl⟩⟩
    have un := StX.un_laid (fs := frs outer) (s := s) (o := ({ cls := .type "tuple", data := .seq us.toArray } : Obj)) (u := .tup vs) hn
    exact h _ _ [v, V.ref s.heap.objs.size] [wv, Value.ref s.heap.objs.size] (StX.env0_laid e0 new) un rfl (fun e s' z => z) (.cons rv (.cons rfl .nil)) rfl ⟨_, hn, rfl, rfl⟩
  · subst ex eH
    obtain ⟨t, h1, h2⟩ := hbody A outer s2 _ _ Q E hr' (hq p hp)
    exact ⟨t, h1.nox, h2⟩
end
theorem oneCell {l : List (Str × NameKind)} {x : Str} (h : (l.all fun p => match p.2 with | .cell => decide (p.1 = x) | _ => true) = true) {y : Str} (e : l.lookup y = some .cell) : y = x ∧ true = true :=
  ⟨of_decide_eq_true (List.all_eq_true.mp h _ (PySem.mem_of_lookup e)), rfl⟩
theorem ndLay : (["place", "clear", "layers", "layer"] : List Str).Nodup := by decide +kernel
def lamSc (st : Stmt) : Scope := match (defBody st).getLast? with
  | some (.Return (some (.Call _ [_, .Lambda _ _ sc _] _ _)) _) => sc
  | _ => defScope st
theorem scLay : FnScope ["clear", "layers", "net"] ["clear", "layers"] (defScope sLay) := ⟨rfl, rfl, rfl, by decide +kernel, rfl, by decide +kernel, by decide +kernel⟩
abbrev GN := (Int → Int → Nat) × N3
def layG (gs : List GN) (k : Nat) : Int → Int → Nat := fun x y => unlike (gs.map fun q => q.1 x y) k
def spLay (T : List (Addr × Str)) (Cn C : Addr) (Cs : List Addr) : List V → Sp := fun zs vs H Q _ => ∃ (gs : List GN) (p q r : Int) (k : Nat), zs = [.str (mkS [k])] ∧ vs.length = 3 ∧ Letter k ∧ Tabs T H ∧ CarsV Cn Cs H vs gs ∧ Below (gs.map (·.2)) p q r ∧
  ∀ z H' a2 b2 c2, ExtN H H' → Tabs T H' → CarV Cn [C] H' z (layG gs k) a2 b2 c2 → Q z H'
section
variable {P : Program} {w : World} {K : PySem.W.Frag} {mg : Str → Option Value} {base : Heap} {f fA fN fI fB fC fS fP fD fK fL fW fO fU Cn C D M : Addr} {Cs : List Addr} {fd fdN fdW : FuncData} {k : Nat} {T : List (Addr × Str)}
theorem ok_lay (F : FD K "layered" "layered" sLay f fd) (LD : LamD base mg T "layered.<locals>.<lambda>" fd) (FC : FnR P w K mg base C0 2 fC spChkCol) (GC : Gb K mg "check_colour" fC) (FO : FnR P w K mg base C0 7 fO (spNetAll Cn Cs)) (GO : Gb K mg "net_of_all" fO)
    (FU : FnR P w K mg base C0 1 fU spUnlike) (GU : Gb K mg "first_unlike" fU) (FS : FnR P w K mg base C0 4 fS (spSeen Cn Cs)) (MS : Ms K Cs "seen" fS)
    (FW : FnOk P w K mg base C0 9 fW fdW ["net", "choose"] (spWovBy P w K mg base 5 Cn C)) (bW : L2.Binds K fdW ["net", "choose"] []) (GW : Gb K mg "woven_by" fW) : FnSK P w K mg base 10 f ["clear"] (spLay T Cn C Cs) := by
  obtain ⟨cc, PP, hcode, TB, hT, hTu⟩ := LD
  have G := skOf (P := P) (w := w) (mg := mg) (base := base) (n := 3) (k := 9) (N := ["clear", "layers", "net"]) (y := "clear") (z := "layers") (sp := fun vs H Q _ => ∃ (t : Addr) (xs : List V) (gs : List GN) (p q r : Int) (k : Nat), vs = [.str (mkS [k]), .ref t] ∧ H t = some (.tup xs) ∧ xs.length = 3 ∧ Letter k ∧ Tabs T H ∧ CarsV Cn Cs H xs gs ∧ Below (gs.map (·.2)) p q r ∧
    ∀ z H' a2 b2 c2, ExtN H H' → Tabs T H' → CarV Cn [C] H' z (layG gs k) a2 b2 c2 → Q z H') F hcode scLay
    (fun kV doc pm an cdv ct v us hl => match us, hl with | [_, _, _], _ => rfl) (fun A outer s H vs Q E hr h => ?_)
  · intro A outer s H us ws vs zs Q E hr e0 r rz ⟨gs, p, q, r', k, h1, h2, h3, h4, h5, h6, h7⟩
    exact G A outer s H us ws vs zs Q E hr e0 r rz ⟨_, h1, h2, by rw [h2]; decide, fun t nt => ⟨t, vs, gs, p, q, r', k, rfl, upd_same, h2, h3, h4.ext (Ex.upd nt), h5.ext (Ex.l (Ex.upd nt)), h6, fun z H' a b c e => h7 z H' a b c ((Ex.upd nt).n.trans e)⟩⟩
  obtain ⟨t, xs, gs, p, q, r, k, rfl, ht, hl, hk, tb, cs, bl, hQ⟩ := h
  refine ⟨_, pss_cons (ps_expr (pe_g FC GC (hr.mono (by decide)) rfl (pa_cons (pv 0) pa_nil)))
    (pss_cons (ps_set (i := 2) scLay.nd rfl (Or.inl rfl) (pe_g FO GO (hr.mono (by decide)) rfl (pa_cons (pv 1) pa_nil)))
    (pss_one (ps_ret (pe_wov (k := 4) (T := T) (N := ["place", "clear", "layers", "layer"]) (x := "place") (fr := ["clear", "layers"]) (cel := true) (js := [0, 1]) FW hr rfl GW.g GW.kp bW (pv 2) TB rfl hT hTu rfl
      ⟨rfl, rfl, rfl, rfl, by decide, rfl, fun _ _ => rfl, fun _ => rfl, fun _ => oneCell (by decide +kernel), by decide, by decide⟩ (frOk_ok (outer := defScope sLay) (by decide +kernel)) rfl (fun _ _ _ _ _ _ => rfl)
      (fun A outer s H f c' hr2 => pe_g FU GU (hr2.mono (by decide)) rfl (pa_cons (pe_lc (own := [("layer", 3)]) (g := gName 3) (tt := tYes) (wi := iTup K (tVar 2)) rfl ndLay (pi_tup (pv 2)) (blkOk_by (N := ["place", "clear", "layers", "layer"]) (sc := lamSc sLay) (by decide +kernel))
        (fun _ _ _ _ _ => pg_name (i := 3) ndLay rfl (Or.inl rfl)) (fun _ _ _ _ _ => pts_nil) (fun _ _ _ _ _ => pe_m (pv 3) MS FS (hr2.mono (by decide)) (pa_cons (pv 0) pa_nil))) (pa_cons (pv 1) pa_nil))) (fun _ => rfl))))), ?_⟩
  have hgl : gs.length = 3 := by rw [← cs.1]; exact hl
  refine ⟨_, rfl, k, rfl, hk, ?_⟩
  refine ⟨_, rfl, t, xs, gs, p, q, r, rfl, ht, cs, by omega, by omega, bl, fun z a3 b3 c3 H1 e1 N3 hin => ?_⟩
  have hper : ∀ (i : Nat) (n : GN), gs[i]? = some n → Mn.Canon n.1 n.2.1 n.2.2.1 n.2.2.2 ∧ ∀ x y, Letter (n.1 x y) := fun i n hn => by
    obtain ⟨v, _, o, C1, dx, n', _, _, _, _, can, hL⟩ := cs.2 i n hn
    exact ⟨can, hL⟩
  refine ⟨_, rfl, tb.ext e1, fun H2 eN T2 => ⟨fun x y => .str (mkS [layG gs k x y]), fun t' x y HL eL hp => ?_, fun fl H3 e3 cl => ?_⟩⟩
  · have eh : ExtN H HL := (e1.n.trans eN).trans eL.n
    have htL := eh _ _ ht (fun ps z => by cases z)
    refine ⟨_, rfl, t, rfl, ⟨_, SqT.of htL⟩, fun D hD => ?_⟩
    refine lc_by (R := fun j o _ => ∃ q : GN, gs[j]? = some q ∧ o = some (.str (mkS [q.1 x y]))) (walk_tup (SqT.of htL)) hD (fun i xi H4 hi hx p4 => ?_) (fun H4 p4 => ?_)
    · have hi : i < gs.length := by rw [← cs.1]; exact hi
      obtain ⟨v, hv, cv⟩ := cs.2 i gs[i] (by simp [hi])
      rw [hx] at hv
      cases hv
      have cv1 := (cv.extI (.ofN eh)).ext (Ex.l p4.1)
      have cv2 := cv1
      obtain ⟨o, C1, dx, n, rfl, hC, ho, _⟩ := cv1
      refine ⟨rfl, _, rfl, o, C1, dx, _, rfl, hC, ho, rfl, _, rfl, _, t', _, _, _, _, x, y, rfl, cv2, p4.1 _ _ hp, fun H5 e5 => ?_⟩
      exact p4.yes (fun j o H H' _ r => r) hD e5 ⟨gs[i], by simp [hi], rfl⟩ (by show i < 2 ^ 24; omega)
    · obtain ⟨e4, outs, ho, hDl, hoo⟩ := p4
      rw [cs.1] at ho
      have e5 : outs.filterMap id = (gs.map fun q => q.1 x y).map fun n => V.str (mkS [n]) := outs_some (by simp [ho]) fun j o q => by
        obtain ⟨n, h1, h2⟩ := hoo j o q
        refine ⟨_, ?_, h2⟩
        rw [List.getElem?_map, List.getElem?_map, h1]; rfl
      rw [e5] at hDl
      exact ⟨_, rfl, D, _, k, rfl, hDl, e4, rfl⟩
  · refine ⟨_, _, a3, b3, c3, layG gs k, _, rfl, N3.extI (.ofN (eN.trans e3.n)), cl, fun _ _ _ _ _ _ => rfl, fun u v h => ?_, fun x y => ?_, fun z' H4 a4 b4 c4 e4 cv4 _ => ⟨e4, fun H5 e5 u5 => ?_⟩⟩
    · have h2 := (hin u v).mp h
      intro x y
      unfold layG
      congr 1
      refine List.map_congr_left fun n hn => ?_
      obtain ⟨i, hi, rfl⟩ := List.getElem_of_mem hn
      exact ((hper i gs[i] (by simp [hi])).1.per u v).mp (h2 _ (List.mem_map.mpr ⟨gs[i], hn, rfl⟩)) x y
    · unfold layG unlike
      cases h : (gs.map fun q => q.1 x y).find? fun n => decide (n ≠ k) with
      | none => exact hk
      | some m =>
        obtain ⟨n, hn, rfl⟩ := List.mem_map.mp (List.mem_of_find?_eq_some h)
        obtain ⟨i, hi, rfl⟩ := List.getElem_of_mem hn
        exact (hper i gs[i] (by simp [hi])).2 x y
    · exact hQ z' H5 a4 b4 c4 ((e1.n.trans eN).trans e5.n) (T2.ext e5) (cv4.extI (.ofU u5))
end
end Wk
end
section
set_option maxHeartbeats 4000000
/-! setdefault with tuples as keys. -/
namespace Wk
open PySem PySem.Spec PyProof.Rows L2 Cl TL LamX
section
variable {X : Cx} {pins : List (Addr × Obj)} {σ : L2.St} {H : Hp} {s : Shared} {a b : Addr} {r : Value} {d : V} {k : List Key} {A : Around} {E : Value → Shared → Prop}
theorem d_setdT {kvs : List (List Key × V)} {Q : Value → Shared → Prop} (hu : A.units + 1 < cLine) (I : Inv X pins σ H s) (e : H a = some (.dT kvs)) (eb : H b = some (.tup (k.map kV))) (rd : RelV d r) (hl : kvs.length < sizeLine)
    (h1 : ∀ v, valV kvs k = some v → ∀ (w' : Value) (s' : Shared), Inv X pins σ H s' → RelV v w' → Q w' s') (h2 : valV kvs k = none → ∀ (w' : Value) (s' : Shared), Inv X pins σ (upd H a (.dT (putK kvs k d))) s' → RelV d w' → Q w' s') :
    wpAny (model X.prog X.w) A (call (.builtin "dict.setdefault") [.ref a, .ref b, r]) Q E s := by
  obtain ⟨z, hd, xs, rel, dd⟩ := dt_of I.hok e
  have hz : xs.length ≤ sizeLine := by rw [← Paired.length rel]; exact z
  refine PySem.call_setdefault_heap (hsz := hz) (tupleKind_room_in1 hu) (key_of I.hok eb) hd dd (fun p hp => ?_) fun hn h' dd' hs => ?_
  · have q := rel.val k
    rw [hp] at q
    cases q0 : valV kvs k with
    | none =>
      rw [q0] at q
      exact (show False from q).elim
    | some v0 =>
      rw [q0] at q
      exact h1 v0 q0 _ _ (I.tok _) q
  · have q := rel.val k
    rw [hn] at q
    cases q0 : valV kvs k with
    | some v0 =>
      rw [q0] at q
      exact (show False from q).elim
    | none =>
      have hl2 : (putK kvs k d).length ≤ sizeLine := by
        have := length_putK kvs k d
        omega
      obtain ⟨q', es, ep, hq, g2, g3, g4, _, g5⟩ := dd'
      refine h2 q0 _ _ (d_write I (by rw [e]; exact True.intro) hs ⟨q', hq⟩ ⟨hl2, hd, _, (rel.put k eb rd).keeps fun c ys ec => ?_, q', es, ep, hq, g2, g3, g4, g5⟩) rd
      rw [upd_ne (ne_of ec e (fun z => nomatch z))]
      exact ec
end
/-- d.setdefault(y, z), y a tuple -/
def tDSetdT (td ty tx : TE) : TE := fun σ H Q => td σ H fun x H1 => ∃ a, x = .ref a ∧ IsD H1 a ∧ ty σ H1 fun y H2 => tx σ H2 fun z H3 => ∃ (kvs : List (List Key × V)) (k : List Key) (b : Addr), H3 a = some (.dT kvs) ∧ y = .ref b ∧ H3 b = some (.tup (k.map kV)) ∧ kvs.length < sizeLine ∧
  (∀ v, valV kvs k = some v → Q v H3) ∧ (valV kvs k = none → Q z (upd H3 a (.dT (putK kvs k z))))
section
variable {X : Cx} {o e f : Expr} {td ty tx : TE} {apos cpos : Pos}
theorem pe_dsetdT (hu : X.A.units + 1 < cLine) (ho : PE X o td) (he : PE X e ty) (hf : PE X f tx) (m : M2 X o "setdefault" apos e f cpos) : PE X (.Call (.Attribute o "setdefault" apos) [e, f] [] cpos) (tDSetdT td ty tx) := by
  refine ⟨fun pins s σ H Q I h => ?_⟩
  refine wpAny_Call_method m.base m.few m.line PySem.F.plainAttrs_dict PySem.F.slot_dict_setdefault PySem.F.type_dict_setdefault (thn (ho.run pins s σ H _ I h) fun u s1 ⟨x, H1, I1, rx, a, ex, d, q1⟩ => ?_)
  subst ex
  obtain rfl : u = Value.ref a := rx
  obtain ⟨t1, t2, _⟩ := isD_at I1 d
  refine ⟨t1, t2, ?_⟩
  rw [m.trees]
  refine Calls.callWith_builtin rfl (Calls.evalArgs_plain (Calls.spliced_cons (thn (he.run pins s1 σ H1 _ I1 q1) fun iv s2 ⟨y, H2, I2, ry, q2⟩ =>
    Calls.spliced_cons (thn (hf.run pins s2 σ H2 _ I2 q2) fun fv s3 ⟨z, H3, I3, rz, kvs, k, b, ea, ey, eb, hl, q3, q4⟩ => Calls.spliced_nil ?_))))
  subst ey
  obtain rfl : iv = Value.ref b := ry
  exact d_setdT hu I3 ea eb rz hl (fun v hv w' s4 I4 rw' => ⟨v, _, I4, rw', q3 v hv⟩) fun hn w' s4 I4 rw' => ⟨z, _, I4, rw', q4 hn⟩
end
end Wk
end
section
set_option maxHeartbeats 4000000
/-! uncovered. -/
namespace Wk
open PySem PySem.Spec PyProof.Rows L2 Cl TL LamX
/-- the places found, each with what is seen there -/
def kvOf (g : Int → Int → Nat) (ks : List (Int × Int)) : List (List Key × V) := ks.map fun p => ([.inl p.1, .inl p.2], .str (mkS [g p.1 p.2]))
theorem kv_key {x y u v : Int} : (([.inl x, .inl y] : List Key) = [.inl u, .inl v]) ↔ x = u ∧ y = v := by simp
theorem kv_val (g : Int → Int → Nat) (ks : List (Int × Int)) (x y : Int) : valV (kvOf g ks) [.inl x, .inl y] = if (x, y) ∈ ks then some (.str (mkS [g x y])) else none := by
  unfold valV kvOf
  induction ks with
  | nil => rfl
  | cons p r ih =>
    obtain ⟨u, v⟩ := p
    rw [List.map_cons]
    by_cases h : u = x ∧ v = y
    · obtain ⟨rfl, rfl⟩ := h
      rw [List.find?_cons_of_pos (by simp), if_pos List.mem_cons_self]
      rfl
    · have h1 : ¬ ([.inl u, .inl v] : List Key) = [.inl x, .inl y] := fun z => h (kv_key.mp z)
      have h2 : ¬ (x, y) = (u, v) := fun z => h (by cases z; exact ⟨rfl, rfl⟩)
      rw [List.find?_cons_of_neg (by simpa using h1), ih]
      simp only [List.mem_cons, h2, false_or]
theorem kv_put (g : Int → Int → Nat) (ks : List (Int × Int)) (x y : Int) (h : (x, y) ∉ ks) : putK (kvOf g ks) [.inl x, .inl y] (.str (mkS [g x y])) = kvOf g (ks ++ [(x, y)]) := by
  unfold putK
  have : ¬ ((kvOf g ks).any fun kv => decide (kv.1 = [.inl x, .inl y])) = true := fun z => by
    obtain ⟨kv, h1, h2⟩ := List.any_eq_true.mp z
    obtain ⟨⟨u, v⟩, h3, rfl⟩ := List.mem_map.mp h1
    have h2 : ([.inl u, .inl v] : List Key) = [.inl x, .inl y] := of_decide_eq_true h2
    obtain ⟨rfl, rfl⟩ := kv_key.mp h2
    exact h h3
  rw [if_neg this]
  simp [kvOf]
def uncG (g : Int → Int → Nat) (ks : List (Int × Int)) (a b c : Int) : Int → Int → Nat := fun x y => if (Mn.lowx a b c x y, Mn.lowy c y) ∈ ks then g x y else 97
theorem unc_per {g : Int → Int → Nat} {ks : List (Int × Int)} {a b c : Int} (ok : Mn.Ok a b c) (per : PerN a b c g) : PerN a b c (uncG g ks a b c) := by
  intro u v h x y
  unfold uncG
  obtain ⟨e1, e2⟩ := (Mn.low_eq (x := x + u) (y := y + v) (u := x) (v := y) ok).mpr (by
    rw [show x + u - x = u by omega, show y + v - y = v by omega]; exact h)
  rw [e1, e2, per u v h x y]
theorem scUnc : FnScope ["result", "top", "net", "clear", "found", "place", "colour"] ["result", "top", "net", "clear"] (defScope sUnc) := ⟨rfl, rfl, rfl, by decide +kernel, rfl, by decide +kernel, by decide +kernel⟩
def spUnc (T : List (Addr × Str)) (Cn C : Addr) (Cs : List Addr) : Sp := fun vs H Q _ => ∃ (v u n : V) (g g1 g2 : Int → Int → Nat) (a b c a' b' c' a0 b0 c0 p q r : Int) (k : Nat), vs = [v, u, n, .str (mkS [k])] ∧ Letter k ∧ Tabs T H ∧ CarV Cn Cs H v g a b c ∧ CarV Cn Cs H u g1 a' b' c' ∧ NetV Cn H n a0 b0 c0 ∧ Below [(a, b, c), (a', b', c'), (a0, b0, c0)] p q r ∧
  PerN a0 b0 c0 g2 ∧ (∀ x y, Letter (g2 x y)) ∧ (∀ x y, g x y = ovG g1 g2 k x y) ∧
  ∀ z H' g' a2 b2 c2, ExtN H H' → Tabs T H' → CarV Cn [C] H' z g' a2 b2 c2 → PerN a0 b0 c0 g' → (∀ x y, g1 x y = k → g' x y = g2 x y) → Q z H'
section
variable {P : Program} {w : World} {K : PySem.W.Frag} {mg : Str → Option Value} {base : Heap} {f fA fN fI fB fC fS fP fD fK fL fW fO fU Cn C D M : Addr} {Cs : List Addr} {fd fdN fdW : FuncData} {k : Nat} {T : List (Addr × Str)}
theorem ok_unc (F : FD K "uncovered" "uncovered" sUnc f fd) (LD : LamD base mg T "uncovered.<locals>.<lambda>" fd) (B : Bl mg) (L : LetF mg) (NF : NetF K mg Cn) (FG : Gf.CellFn K fA) (MG : Meth K Cn "cell" fA) (FC : FnR P w K mg base C0 2 fC spChkCol) (GC : Gb K mg "check_colour" fC) (FO : FnR P w K mg base C0 6 fO (spCommon Cn)) (GO : Gb K mg "common_net" fO)
    (FP : FnR P w K mg base C0 1 fP (spNetPic Cn)) (MP : Ms K [Cn] "place_in_cell" fP)
    (FN : FnOk P w K mg base C0 1 fN fdN ["self"] (spCarNet Cn Cs)) (bN : L2.Binds K fdN ["self"] []) (PN : Ps K Cs "net" fN) (FS : FnR P w K mg base C0 4 fS (spSeen Cn Cs)) (MS : Ms K Cs "seen" fS)
    (FW : FnOk P w K mg base C0 9 fW fdW ["net", "choose"] (spWovBy P w K mg base 5 Cn C)) (bW : L2.Binds K fdW ["net", "choose"] []) (GW : Gb K mg "woven_by" fW) : KFn P w K mg base 10 f 3 ["clear"] (spUnc T Cn C Cs) := by
  obtain ⟨cc, PP, hcode, TB, hT, hTu⟩ := LD
  obtain ⟨tk, gL⟩ := L.g
  refine ⟨fd, ["result", "top", "net", "clear"], _, ?_, kbOf F 3 ["clear"] fun kV doc pm an cdv ct us ws l1 l2 => match us, ws, l1, l2 with | [_, _, _], [_], _, _ => rfl⟩
  refine okOfL F hcode scUnc (fun vs H Q E h => ?_) fun A outer s H vs Q E hr h => ?_
  · obtain ⟨_, _, _, _, _, _, _, _, _, _, _, _, _, _, _, _, _, _, _, rfl, _⟩ := h; rfl
  obtain ⟨v, u, n, g, g1, g2, a, b, c, a', b', c', a0, b0, c0, p, q, r, k, rfl, hk, ht, cv, cu, N, bl, per2, hL2, hg, hQ⟩ := h
  have hu := hr.units
  refine ⟨_, pss_cons (ps_expr (pe_g FC GC (hr.mono (by decide)) rfl (pa_cons (pv 3) pa_nil)))
    (pss_cons (ps_set (i := 4) scUnc.nd rfl (Or.inr rfl) pe_dnewT)
    (pss_cons (Gf.ps_forCell FG NF.kl.cl MG NF.na B.range rfl hr.depth (pe_g FO GO (hr.mono (by decide)) rfl (pa_cons (pe_p (pv 0) PN FN bN (hr.mono (by decide))) (pa_cons (pe_p (pv 1) PN FN bN (hr.mono (by decide))) (pa_cons (pv 2) pa_nil)))) (pg_name (i := 5) scUnc.nd rfl (Or.inl rfl))
      (pss_cons (ps_set (i := 6) scUnc.nd rfl (Or.inl rfl) (pe_m (pv 0) MS FS (hr.mono (by decide)) (pa_cons (pv 5) pa_nil)))
      (pss_one (ps_if (pt_cmpR op_ne (pe_m (pv 1) MS FS (hr.mono (by decide)) (pa_cons (pv 5) pa_nil)) (pv 3) (nomark _))
        (pss_one (ps_if (pt_cmpR op_ne (pe_m (pv 1) MS FS (hr.mono (by decide)) (pa_cons (pv 5) pa_nil)) (pv 6) (nomark _)) pss_never pss_nil))
        (pss_one (ps_if (pt_cmpR op_ne (pe_dsetdT (Nat.lt_of_le_of_lt (Nat.add_le_add_left (by decide : 1 ≤ 64) _) hu) (pv 4) (pe_m (pv 2) MP FP (hr.mono (by decide)) (pa_cons (pv 5) pa_nil)) (pv 6) ⟨rfl, rfl, rfl, rfl⟩) (pv 6) (nomark _)) pss_never pss_nil))))))
    (pss_one (ps_ret (pe_wov (k := 4) (T := T) (N := ["place", "found"]) (x := "place") (fr := ["found"]) (cel := false) (js := [4]) FW hr rfl GW.g GW.kp bW (pv 2) TB rfl hT hTu rfl
      ⟨rfl, rfl, rfl, rfl, by decide, rfl, fun _ _ => rfl, fun _ => rfl, fun _ => noCell (by decide), by decide, by decide⟩ (frOk_ok (outer := defScope sUnc) (by decide +kernel)) rfl (fun _ _ _ _ _ _ => rfl)
      (fun A outer s H f c' hr2 => pe_dget2 (Nat.lt_of_le_of_lt (Nat.add_le_add_left (by decide : 1 ≤ 64) _) hr2.units) (pv 1) (pv 0) (pe_ix ix_str (pe_glob (v := .str letS) rfl gL ⟨_, rfl⟩) pe_int (fun _ _ => rfl)) ⟨rfl, rfl, rfl, rfl⟩) (fun _ => rfl)))))), ?_⟩
  have cv0 := cv
  have cu0 := cu
  obtain ⟨o1, C1, dx1, n1, rfl, hC1, ho1, _, can1, hL1⟩ := cv0
  obtain ⟨o2, C2, dx2, n2, rfl, hC2, ho2, _, can2, hL1'⟩ := cu0
  obtain ⟨ok0, _⟩ := N.ok
  refine ⟨_, rfl, k, rfl, hk, ?_⟩
  intro D nD
  have e0 : Ex H (upd H D (.dT [])) := Ex.upd nD
  refine ⟨_, rfl, o1, C1, dx1, _, rfl, hC1, e0 _ _ ho1, _, g, a, b, c, rfl, cv.ext (Ex.l e0), fun m1 N1 => ?_⟩
  refine ⟨_, rfl, o2, C2, dx2, _, rfl, hC2, e0 _ _ ho2, _, g1, a', b', c', rfl, cu.ext (Ex.l e0), fun m2 N2 => ?_⟩
  refine ⟨_, rfl, _, p, q, r, .cons N1 (.cons N2 (.cons (N.ext (Ex.l e0)) .nil)), by show 3 ≤ 1000; decide, bl, fun z a3 b3 c3 H1 e1 N3 hin => ?_⟩
  obtain ⟨ok3, l1, l2, l3⟩ := N3.ok
  have a30 := ok3.a
  have c30 := ok3.c
  have exH : ∀ {H' : Hp}, ExB D H1 H' → Ex H H' := fun e b o hb => e b o (fun z => by rw [z, nD] at hb; cases hb) (e1 _ _ (e0 _ _ hb))
  refine ⟨a3, b3, c3, netOf N3, fun m σ H' => ExB D H1 H' ∧ m ≤ (a3 * c3).toNat ∧ ∃ ks X Y, σ = [some (.ref o1), some (.ref o2), some n, some (.str (mkS [k])), some (.ref D), X, Y] ∧ H' D = some (.dT (kvOf g2 ks)) ∧ ks.length ≤ (a3 * c3).toNat - m ∧
    ∀ j : Nat, j < (a3 * c3).toNat - m → g1 ((j : Int) % a3) ((j : Int) / a3) = k → (Mn.lowx a0 b0 c0 ((j : Int) % a3) ((j : Int) / a3), Mn.lowy c0 ((j : Int) / a3)) ∈ ks, ?_, ?_, ?_⟩
  · exact ⟨ExB.of (Ex.refl _), Nat.le_refl _, [], _, _, rfl, e1 _ _ upd_same, by simp, fun j hj => absurd hj (by omega)⟩
  · rintro σ' H' ⟨eb, _, ks, X, Y, rfl, hD, hlen, hks⟩
    have eH := exH eb
    refine ⟨_, rfl, ht.ext eH, fun H2 eN T2 => ⟨fun x y => .str (mkS [if (x, y) ∈ ks then g2 x y else 97]), fun t x y HL eL hp => ?_, fun fl H3 e3 cl => ?_⟩⟩
    · have hDL := eL _ _ (eN _ _ hD (fun ps z => by cases z))
      refine ⟨_, rfl, D, rfl, .inr ⟨_, .inl hDL⟩, _, rfl, ?_⟩
      refine ⟨_, _, 97, rfl, rfl, by rw [let_mk, mkS_len]; decide, by rw [let_list]; rfl, ?_⟩
      refine ⟨_, .inr ⟨_, [.inl x, .inl y], t, .inl hDL, rfl, hp, rfl⟩, Ex.refl _, ?_⟩
      rw [kv_val]
      show _ = V.str (mkS [if (x, y) ∈ ks then g2 x y else 97])
      by_cases h : (x, y) ∈ ks
      · rw [if_pos h, if_pos h]; rfl
      · rw [if_neg h, if_neg h]; rfl
    · refine ⟨_, _, a0, b0, c0, uncG g2 ks a0 b0 c0, _, rfl, N.extI (.ofN ((eH.n.trans eN).trans e3.n)), cl, fun x y x0 x1 y0 y1 => ?_, unc_per ok0 per2, fun x y => ?_, fun z' H4 a4 b4 c4 e4 cv4 _ => ⟨e4, fun H5 e5 u5 => ?_⟩⟩
      · obtain ⟨s1, s2⟩ := Mn.low_self ok0 x0 x1 y0 y1
        show V.str (mkS [if (x, y) ∈ ks then g2 x y else 97]) = _
        unfold uncG
        rw [s1, s2]
      · unfold uncG
        split
        · exact hL2 x y
        · exact ⟨by decide, by decide⟩
      · refine hQ z' H5 _ a4 b4 c4 ((eH.n.trans eN).trans e5.n) (T2.ext e5) (cv4.extI (.ofU u5)) (unc_per ok0 per2) fun x y hxy => ?_
        obtain ⟨q1, q2, q3, q4⟩ := Mn.low_cell (x := x) (y := y) ok3
        obtain ⟨i1, i2, i3, i4⟩ := cell_ix q1 q2 q3 q4
        have hj := hks (Mn.lowy c3 y * a3 + Mn.lowx a3 b3 c3 x y).toNat (by omega)
        rw [Int.toNat_of_nonneg i1, i3, i4] at hj
        have pc : ∀ u v, Mn.In a3 b3 c3 u v → Mn.Per g1 u v := fun u v h => (can2.per u v).mp ((hin u v).mp h (a', b', c') (by simp))
        rw [Mn.f_low pc] at hj
        have hj := hj hxy
        have ll := (Mn.low_eq (x := Mn.lowx a3 b3 c3 x y) (y := Mn.lowy c3 y) (u := x) (v := y) ok0).mpr (by
          have h1 := (hin _ _).mp (Mn.low_in (a := a3) (b := b3) (c := c3) (x := x) (y := y)) (a0, b0, c0) (by simp)
          have h2 := Mn.in_neg h1
          rwa [show -(x - Mn.lowx a3 b3 c3 x y) = Mn.lowx a3 b3 c3 x y - x by omega, show -(y - Mn.lowy c3 y) = Mn.lowy c3 y - y by omega] at h2)
        rw [ll.1, ll.2] at hj
        unfold uncG
        rw [if_pos hj]
  · rintro m x y t σ' H' ⟨eb, hm, ks, X, Y, rfl, hD, hlen, hks⟩ sp nt
    obtain ⟨hix, hm1⟩ := spot_ix sp a30 c30
    obtain ⟨x0, x1, y0, y1, _⟩ := sp
    obtain ⟨_, _, i3, i4⟩ := cell_ix x0 x1 y0 y1
    have et : Ex H' (upd H' t (.tup [.int x, .int y])) := Ex.upd nt
    have eH := (exH eb).trans et
    refine ⟨_, rfl, o1, C1, dx1, _, rfl, hC1, eH _ _ ho1, rfl, _, rfl, _, t, g, a, b, c, x, y, rfl, cv.ext (Ex.l eH), upd_same, fun H2 e2 => ?_⟩
    have eH2 := eH.trans e2
    refine ⟨_, rfl, o2, C2, dx2, _, rfl, hC2, eH2 _ _ ho2, rfl, _, rfl, _, t, g1, a', b', c', x, y, rfl, cu.ext (Ex.l eH2), e2 _ _ upd_same, fun H3 e3 => ?_⟩
    have eH3 := eH2.trans e3
    have e13 : Ex H' H3 := (et.trans e2).trans e3
    refine ⟨_, rfl, rfl, _, rfl, ?_⟩
    have step : ∀ {H4 : Hp} {ks' : List (Int × Int)} {X' Y' : Option V}, ExB D H1 H4 → H4 D = some (.dT (kvOf g2 ks')) → ks'.length ≤ ks.length + 1 → (∀ w ∈ ks, w ∈ ks') → (g1 x y = k → (Mn.lowx a0 b0 c0 x y, Mn.lowy c0 y) ∈ ks') →
        ExB D H1 H4 ∧ m ≤ (a3 * c3).toNat ∧ ∃ ks X Y, ([some (.ref o1), some (.ref o2), some n, some (.str (mkS [k])), some (.ref D), X', Y'] : L2.St) = [some (.ref o1), some (.ref o2), some n, some (.str (mkS [k])), some (.ref D), X, Y] ∧ H4 D = some (.dT (kvOf g2 ks)) ∧ ks.length ≤ (a3 * c3).toNat - m ∧
          ∀ j : Nat, j < (a3 * c3).toNat - m → g1 ((j : Int) % a3) ((j : Int) / a3) = k → (Mn.lowx a0 b0 c0 ((j : Int) % a3) ((j : Int) / a3), Mn.lowy c0 ((j : Int) / a3)) ∈ ks := fun {H4 ks' X' Y'} f1 f2 f3 f4 f5 => by
      refine ⟨f1, by omega, ks', _, _, rfl, f2, by omega, fun j hj hg1 => ?_⟩
      by_cases hji : j < (a3 * c3).toNat - (m + 1)
      · exact f4 _ (hks j hji hg1)
      · have ej : j = (a3 * c3).toNat - (m + 1) := by omega
        rw [ej, hix, i3, i4] at hg1 ⊢
        exact f5 hg1
    by_cases h : g1 x y = k
    · rw [h, decide_eq_true rfl]
      have hgx : g x y = g2 (Mn.lowx a0 b0 c0 x y) (Mn.lowy c0 y) := by
        rw [hg x y, Mn.f_low per2]
        unfold ovG
        rw [if_pos h]
      have hD3 := e13 _ _ hD
      have N5 := N.ext (Ex.l eH3)
      have N6 := N5
      obtain ⟨nn, dn, qn, rfl, hnn, _⟩ := N6
      refine iteF ⟨_, rfl, D, rfl, .inr ⟨_, .inl hD3⟩, ?_⟩
      refine ⟨_, rfl, nn, Cn, dn, _, rfl, List.mem_singleton.mpr rfl, hnn, rfl, _, rfl, _, t, a0, b0, c0, x, y, rfl, N5, e3 _ _ (e2 _ _ upd_same), fun tz H4 e4 hz => ?_⟩
      have hkl : (kvOf g2 ks).length = ks.length := by simp [kvOf]
      refine ⟨_, rfl, kvOf g2 ks, [.inl (Mn.lowx a0 b0 c0 x y), .inl (Mn.lowy c0 y)], tz, e4 _ _ hD3, rfl, hz, ?_, fun v hv => ?_, fun hv => ?_⟩
      · rw [hkl]
        show ks.length < 2 ^ 24
        omega
      · rw [kv_val] at hv
        by_cases hin' : (Mn.lowx a0 b0 c0 x y, Mn.lowy c0 y) ∈ ks
        · rw [if_pos hin'] at hv
          cases hv
          refine ⟨_, rfl, rfl, _, rfl, ?_⟩
          rw [hgx, decide_eq_true rfl]
          exact iteF (step ((eb.trans (ExB.of e13)).trans (ExB.of e4)) (e4 _ _ hD3) (by omega) (fun w hw => hw) fun _ => hin')
        · rw [if_neg hin'] at hv
          cases hv
      · rw [kv_val] at hv
        by_cases hin' : (Mn.lowx a0 b0 c0 x y, Mn.lowy c0 y) ∈ ks
        · rw [if_pos hin'] at hv
          cases hv
        · refine ⟨_, rfl, rfl, _, rfl, ?_⟩
          rw [hgx, decide_eq_true rfl, kv_put g2 ks _ _ hin']
          exact iteF (step (((eb.trans (ExB.of e13)).trans (ExB.of e4)).trans ExB.put) upd_same (by simp) (fun w hw => List.mem_append_left _ hw) fun _ => by simp)
    · have hne : ¬ V.str (mkS [g1 x y]) = V.str (mkS [k]) := fun z => h (by
        injection z with z
        simpa using mkS_inj z)
      rw [decide_eq_false hne]
      refine iteT ⟨_, rfl, o2, C2, dx2, _, rfl, hC2, eH3 _ _ ho2, rfl, _, rfl, _, t, g1, a', b', c', x, y, rfl, cu.ext (Ex.l eH3), e3 _ _ (e2 _ _ upd_same), fun H4 e4 => ?_⟩
      refine ⟨_, rfl, rfl, _, rfl, ?_⟩
      have hgx : g x y = g1 x y := by
        rw [hg x y]
        unfold ovG
        rw [if_neg h]
      rw [hgx, decide_eq_true rfl]
      exact iteF (step ((eb.trans (ExB.of e13)).trans (ExB.of e4)) (e4 _ _ (e13 _ _ hD)) (by omega) (fun w hw => hw) fun z => absurd z h)
end
end Wk
end
section
set_option maxHeartbeats 4000000
/-! The law's draws. -/
namespace Wk
open PySem PySem.Spec PyProof.Rows L2 Cl TL LamX
/-- the tape at D -/
def Tape (D L : Addr) (H : Hp) : Prop := ∃ (cs : List Int) (i p s : Int), L ≠ D ∧ H D = some (.lst [.ref L, .int i, .int p, .int s]) ∧ H L = some (.lst (cs.map V.int)) ∧ cs.length ≤ 1000 ∧ 0 ≤ i ∧ 0 ≤ p ∧ 0 ≤ s ∧ s < 2147483647
theorem Tape.ext {D L : Addr} {H H' : Hp} (t : Tape D L H) (e : ExtN H H') : Tape D L H' := by
  obtain ⟨cs, i, p, s, h1, h2, h3, h4⟩ := t
  exact ⟨cs, i, p, s, h1, e _ _ h2 (fun ps z => by cases z), e _ _ h3 (fun ps z => by cases z), h4⟩
theorem scDraw : FnScope ["_law_tape_here", "_law_many", "_law_digit", "_law_cell", "_law_near"] ["_law_tape_here", "_law_many"] (defScope sDraw) := ⟨rfl, rfl, rfl, by decide +kernel, rfl, by decide +kernel, by decide +kernel⟩
def spDraw : Sp := fun vs H Q _ => ∃ (D L : Addr) (m : Int), vs = [.ref D, .int m] ∧ Tape D L H ∧ 1 ≤ m ∧ m ≤ 1000000000 ∧ ∀ r H', 0 ≤ r → r < m → ExB D H H' → Tape D L H' → Q (.int r) H'
section
variable {P : Program} {w : World} {K : PySem.W.Frag} {mg : Str → Option Value} {base : Heap} {f : Addr} {fd : FuncData}
theorem ok_draw (F : FD K "_law_draw" "_law_draw" sDraw f fd) (B : Bl mg) : FnR P w K mg base C0 1 f spDraw := by
  refine rawOf (okOf F scDraw (fun vs H Q E h => ?_) fun cdv A outer s H vs Q E hr h => ?_) (F.bindsN fun _ _ _ _ _ _ us hl => match us, hl with | [_, _], _ => rfl)
  · obtain ⟨_, _, _, rfl, _⟩ := h; rfl
  obtain ⟨D, L, m, rfl, ⟨cs, i, p, s', hLD, hD, hL, hcs, i0, p0, s0, s1⟩, m1, m2, hQ⟩ := h
  refine ⟨_, pss_cons (ps_if (pt_cmpR op_gt (pe_ix ix_list (pv 0) pe_int (fun _ _ => rfl)) pe_int (nomark _))
      (pss_cons (ps_set (i := 2) scDraw.nd rfl (Or.inl rfl) (pe_op op_mod (pe_ix ix_list (pv 0) pe_int (fun _ _ => rfl)) (pv 1)))
      (pss_cons (ps_asg (pe_op op_fdiv (pe_ix ix_list (pv 0) pe_int (fun _ _ => rfl)) (pv 1)) (pg_sub (pv 0) pe_int set_list))
      (pss_one (ps_ret (pv 2))))) pss_nil)
    (pss_cons (ps_set (i := 3) scDraw.nd rfl (Or.inl rfl) pe_int)
    (pss_cons (ps_if (pt_cmpR op_lt (pe_ix ix_list (pv 0) pe_int (fun _ _ => rfl)) (pe_callB call_len_seq rfl B.len PySem.boot_len (pa_cons (pe_ix ix_list (pv 0) pe_int (fun _ _ => rfl)) pa_nil)) (nomark _))
      (pss_one (ps_set (i := 3) scDraw.nd rfl (Or.inl rfl) (pe_ix ix_list (pe_ix ix_list (pv 0) pe_int (fun _ _ => rfl)) (pe_ix ix_list (pv 0) pe_int (fun _ _ => rfl)) (fun _ _ => rfl)))) pss_nil)
    (pss_cons (ps_asg (pe_op op_add (pe_ix ix_list (pv 0) pe_int (fun _ _ => rfl)) pe_int) (pg_sub (pv 0) pe_int set_list))
    (pss_cons (ps_if (pt_cmpR op_ge (pv 3) (pe_op op_pow pe_int pe_int) (nomark _))
      (pss_cons (ps_asg (pe_op op_fdiv (pv 3) (pv 1)) (pg_sub (pv 0) pe_int set_list)) (pss_one (ps_ret (pe_op op_mod (pv 3) (pv 1))))) pss_nil)
    (pss_cons (ps_set (i := 4) scDraw.nd rfl (Or.inl rfl) (pe_op op_add (pe_op op_add (pe_op op_mod (pv 3) pe_int) (pe_op op_mul pe_int (pe_ix ix_list (pv 0) pe_int (fun _ _ => rfl)))) pe_int))
    (pss_cons (ps_asg (pe_op op_mod (pe_op op_add (pe_op op_mul (pe_ix ix_list (pv 0) pe_int (fun _ _ => rfl)) pe_int) (pv 4)) pe_int) (pg_sub (pv 0) pe_int set_list))
    (pss_one (ps_ret (pe_op op_mod (pe_op op_mod (pe_op op_pow (pe_ix ix_list (pv 0) pe_int (fun _ _ => rfl)) pe_int) pe_int) (pv 1)))))))))), ?_⟩
  refine ⟨_, rfl, D, _, _, _, rfl, rfl, SqL.of hD, atI_nat (j := 2) rfl, _, _, rfl, rfl, _, rfl, ?_⟩
  refine ifD (fun hp => ?_) fun _ => ?_
  · refine ⟨_, rfl, D, _, _, _, rfl, rfl, SqL.of hD, atI_nat (j := 2) rfl, _, rfl, _, _, rfl, rfl, by omega, ?_⟩
    refine ⟨_, rfl, D, _, _, _, rfl, rfl, SqL.of hD, atI_nat (j := 2) rfl, _, rfl, _, _, rfl, rfl, ⟨by omega, by omega⟩, ?_⟩
    refine ⟨_, rfl, D, _, 2, 2, rfl, rfl, hD, rfl, ?_⟩
    exact ⟨_, rfl, hQ _ _ (Int.emod_nonneg _ (by omega)) (Int.emod_lt_of_pos _ (by omega)) ExB.put ⟨cs, i, p / m, s', hLD, upd_same, by rw [upd_ne hLD]; exact hL, hcs, i0, Int.ediv_nonneg (by omega) (by omega), s0, s1⟩⟩
  refine ⟨_, rfl, D, _, _, _, rfl, rfl, SqL.of hD, atI_nat (j := 1) rfl, _, rfl, D, _, _, _, rfl, rfl, SqL.of hD, atI_nat (j := 0) rfl, L, _, rfl, .inl (SqL.of hL), _, _, rfl, rfl, _, rfl, ?_⟩
  have hcl : (cs.map V.int).length = cs.length := List.length_map ..
  have hmod : ∀ e : Int, CPow (e % 2147483647) 5 := fun e => ⟨by decide, by decide, by
    have h1 := Int.emod_nonneg e (show (2147483647 : Int) ≠ 0 by decide)
    have h2 := Int.emod_lt_of_pos e (show (0 : Int) < 2147483647 by decide)
    omega⟩
  refine ifD (fun hi => ?_) fun _ => ?_
  · obtain ⟨cell, hget⟩ : ∃ cell : Int, atI (cs.map V.int) i = some (.int cell) := by
      have hget : (cs.map V.int)[i.toNat]? = some (.int (cs[i.toNat]'(by omega))) := by
        rw [List.getElem?_map, List.getElem?_eq_getElem (by omega)]; rfl
      have := atI_nat hget
      rw [Int.toNat_of_nonneg i0] at this
      exact ⟨_, this⟩
    refine ⟨_, rfl, D, _, _, _, rfl, rfl, SqL.of hD, atI_nat (j := 0) rfl, _, rfl, D, _, _, _, rfl, rfl, SqL.of hD, atI_nat (j := 1) rfl, L, _, _, _, rfl, rfl, SqL.of hL, hget, ?_⟩
    refine ⟨_, rfl, D, _, _, _, rfl, rfl, SqL.of hD, atI_nat (j := 1) rfl, _, _, rfl, rfl, _, rfl, D, _, 1, 1, rfl, rfl, hD, rfl, ?_⟩
    have hD1 : upd H D (.lst ([V.ref L, .int i, .int p, .int s'].set 1 (.int (i + 1)))) D = some (.lst [.ref L, .int (i + 1), .int p, .int s']) := upd_same
    refine ⟨_, rfl, _, _, rfl, rfl, ⟨by decide, by decide, by decide⟩, _, _, rfl, rfl, _, rfl, ?_⟩
    refine ifD (fun hc => ?_) fun _ => ?_
    · refine ⟨_, rfl, _, rfl, _, _, rfl, rfl, ⟨by omega, by omega⟩, ?_⟩
      refine ⟨_, rfl, D, _, 2, 2, rfl, rfl, hD1, rfl, ?_⟩
      rw [upd_upd]
      have hc0 := Int.le_trans (show (0 : Int) ≤ 10 ^ (18 : Int).toNat by decide) hc
      exact ⟨_, rfl, _, rfl, _, _, rfl, rfl, by omega, hQ _ _ (Int.emod_nonneg _ (by omega)) (Int.emod_lt_of_pos _ (by omega)) ExB.put ⟨cs, i + 1, _, s', hLD, upd_same, by rw [upd_ne hLD]; exact hL, hcs, by omega, Int.ediv_nonneg hc0 (by omega), s0, s1⟩⟩
    · refine ⟨_, rfl, _, _, rfl, rfl, (by decide : (0 : Int) < 2147483647), _, rfl, D, _, _, _, rfl, rfl, SqL.of hD1, atI_nat (j := 1) rfl, _, _, rfl, rfl, .inl ⟨by decide, by decide⟩, _, _, rfl, rfl, _, _, rfl, rfl, ?_⟩
      refine ⟨_, rfl, D, _, _, _, rfl, rfl, SqL.of hD1, atI_nat (j := 3) rfl, _, _, rfl, rfl, .inr ⟨by decide, by decide⟩, _, rfl, _, _, rfl, rfl, _, _, rfl, rfl, (by decide : (0 : Int) < 2147483647), ?_⟩
      refine ⟨_, rfl, D, _, 3, 3, rfl, rfl, hD1, rfl, ?_⟩
      rw [upd_upd]
      refine ⟨_, rfl, D, _, _, _, rfl, rfl, SqL.of upd_same, atI_nat (j := 3) rfl, _, _, rfl, rfl, hmod _, _, _, rfl, rfl, (by decide : (0 : Int) < 2147483647), _, rfl, _, _, rfl, rfl, by omega, ?_⟩
      exact hQ _ _ (Int.emod_nonneg _ (by omega)) (Int.emod_lt_of_pos _ (by omega)) ExB.put ⟨cs, i + 1, p, _, hLD, upd_same, by rw [upd_ne hLD]; exact hL, hcs, by omega, p0, Int.emod_nonneg _ (by decide), Int.emod_lt_of_pos _ (by decide)⟩
  · refine ⟨_, rfl, D, _, _, _, rfl, rfl, SqL.of hD, atI_nat (j := 1) rfl, _, _, rfl, rfl, _, rfl, D, _, 1, 1, rfl, rfl, hD, rfl, ?_⟩
    have hD1 : upd H D (.lst ([V.ref L, .int i, .int p, .int s'].set 1 (.int (i + 1)))) D = some (.lst [.ref L, .int (i + 1), .int p, .int s']) := upd_same
    refine ⟨_, rfl, _, _, rfl, rfl, ⟨by decide, by decide, by decide⟩, _, _, rfl, rfl, _, rfl, ?_⟩
    refine ifD (fun hc => ?_) fun _ => ?_
    · refine ⟨_, rfl, _, rfl, _, _, rfl, rfl, ⟨by omega, by omega⟩, ?_⟩
      refine ⟨_, rfl, D, _, 2, 2, rfl, rfl, hD1, rfl, ?_⟩
      rw [upd_upd]
      have hc0 := Int.le_trans (show (0 : Int) ≤ 10 ^ (18 : Int).toNat by decide) hc
      exact ⟨_, rfl, _, rfl, _, _, rfl, rfl, by omega, hQ _ _ (Int.emod_nonneg _ (by omega)) (Int.emod_lt_of_pos _ (by omega)) ExB.put ⟨cs, i + 1, _, s', hLD, upd_same, by rw [upd_ne hLD]; exact hL, hcs, by omega, Int.ediv_nonneg hc0 (by omega), s0, s1⟩⟩
    · refine ⟨_, rfl, _, _, rfl, rfl, (by decide : (0 : Int) < 2147483647), _, rfl, D, _, _, _, rfl, rfl, SqL.of hD1, atI_nat (j := 1) rfl, _, _, rfl, rfl, .inl ⟨by decide, by decide⟩, _, _, rfl, rfl, _, _, rfl, rfl, ?_⟩
      refine ⟨_, rfl, D, _, _, _, rfl, rfl, SqL.of hD1, atI_nat (j := 3) rfl, _, _, rfl, rfl, .inr ⟨by decide, by decide⟩, _, rfl, _, _, rfl, rfl, _, _, rfl, rfl, (by decide : (0 : Int) < 2147483647), ?_⟩
      refine ⟨_, rfl, D, _, 3, 3, rfl, rfl, hD1, rfl, ?_⟩
      rw [upd_upd]
      refine ⟨_, rfl, D, _, _, _, rfl, rfl, SqL.of upd_same, atI_nat (j := 3) rfl, _, _, rfl, rfl, hmod _, _, _, rfl, rfl, (by decide : (0 : Int) < 2147483647), _, rfl, _, _, rfl, rfl, by omega, ?_⟩
      exact hQ _ _ (Int.emod_nonneg _ (by omega)) (Int.emod_lt_of_pos _ (by omega)) ExB.put ⟨cs, i + 1, p, _, hLD, upd_same, by rw [upd_ne hLD]; exact hL, hcs, by omega, p0, Int.emod_nonneg _ (by decide), Int.emod_lt_of_pos _ (by decide)⟩
end
end Wk
end
section
set_option maxHeartbeats 4000000
/-! Great numbers, places, lists with draws. -/
namespace Wk
open PySem PySem.Spec PyProof.Rows L2 Cl TL LamX
theorem Tape.lst {D L : Addr} {H : Hp} (t : Tape D L H) : ∃ xs, H D = some (.lst xs) := by
  obtain ⟨cs, i, p, s, h1, h2, h3, h4⟩ := t
  exact ⟨_, h2⟩
theorem Tape.e {D L : Addr} {H H' : Hp} (t : Tape D L H) (e : Ex H H') : Tape D L H' := t.ext (Ex.n e)
theorem Tape.fresh {D L p : Addr} {H : Hp} (t : Tape D L H) (n : H p = none) : p ≠ D ∧ p ≠ L := by
  obtain ⟨cs, i, q, s, h1, h2, h3, h4⟩ := t
  refine ⟨fun z => ?_, fun z => ?_⟩
  · rw [z, h2] at n; cases n
  · rw [z, h3] at n; cases n
theorem Tape.upd {D L p : Addr} {H : Hp} {u : HO} (t : Tape D L H) (n1 : p ≠ D) (n2 : p ≠ L) : Tape D L (L2.upd H p u) := by
  obtain ⟨cs, i, q, s, h1, h2, h3, h4⟩ := t
  exact ⟨cs, i, q, s, h1, by rw [upd_ne (Ne.symm n1)]; exact h2, by rw [upd_ne (Ne.symm n2)]; exact h3, h4⟩
/-- instances and tuples stay where only the tape changes -/
theorem ExB.i {D L : Addr} {H H' : Hp} (t : Tape D L H) (e : ExB D H H') : ExtI H H' := fun b o h q => e b o (fun z => by
  obtain ⟨xs, h2⟩ := t.lst
  rw [z, h2] at h
  cases h
  rcases q with ⟨_, _, _, z⟩ | ⟨_, z⟩ <;> cases z) h
theorem ExB.tu {D L : Addr} {H H' : Hp} (t : Tape D L H) (e : ExB D H H') {b : Addr} {xs : List V} (h : H b = some (.tup xs)) : H' b = some (.tup xs) := ExB.i t e b _ h (.inr ⟨_, rfl⟩)
/-- behind i turns of a list whose elements draw -/
def LcB (T L : Addr) (H1 : Hp) (D : Addr) (R : Nat → V → Hp → Prop) (i : Nat) (H : Hp) : Prop := ExB T H1 H ∧ Tape T L H ∧ ∃ ys : List V, ys.length = i ∧ H D = some (.lst ys) ∧ ∀ j o, ys[j]? = some o → R j o H
/-- what holds of an element stays while the tuples stay -/
def MonT (R : Nat → V → Hp → Prop) : Prop := ∀ j o H H', (∀ b xs, H b = some (.tup xs) → H' b = some (.tup xs)) → R j o H → R j o H'
theorem LcB.yes {T L : Addr} {H1 H H4 : Hp} {D : Addr} {R : Nat → V → Hp → Prop} {i : Nat} {y : V} (tp : Tape T L H1) (hm : MonT R) (hn : H1 D = none) (p : LcB T L H1 D R i H) (e : ExB T H H4) (t4 : Tape T L H4) (r : R i y H4) (hz : i < sizeLine) :
    ∃ acc, H4 D = some (.lst acc) ∧ acc.length < sizeLine ∧ LcB T L H1 D R (i + 1) (upd H4 D (.lst (acc ++ [y]))) := by
  obtain ⟨n1, n2⟩ := tp.fresh hn
  obtain ⟨e1, t1, ys, hl, hD, hr⟩ := p
  have hD4 := e _ _ n1 hD
  have hx : ∀ b xs, H4 b = some (.tup xs) → upd H4 D (.lst (ys ++ [y])) b = some (.tup xs) := fun b xs q => by
    rw [upd_ne (fun z => by rw [z, hD4] at q; cases q)]; exact q
  refine ⟨ys, hD4, by rw [hl]; exact hz, ?_, t4.upd n1 n2, ys ++ [y], by simp [hl], upd_same, fun j o q => ?_⟩
  · intro b u hb h
    rw [upd_ne (fun z => by rw [z, hn] at h; cases h)]
    exact e b u hb (e1 b u hb h)
  · rcases snoc_at q with z | ⟨z1, z2⟩
    · exact hm _ _ H4 _ hx (hm _ _ H H4 (fun b xs q => ExB.tu t1 e q) (hr j o z))
    · subst z2
      rw [z1, hl]
      exact hm _ _ H4 _ hx r
theorem lcB {T L : Addr} {lo : Int} {H1 : Hp} {n : Nat} {g : TG} {tt : TT} {te : TE} {vs : List Nat} {σ : L2.St} {D : Addr} {Qd : Hp → Prop} {R : Nat → V → Hp → Prop} (tp : Tape T L H1) (hn : H1 D = none)
    (hs : ∀ (i : Nat) H, i < n → LcB T L H1 D R i H → g (.int (lo + (i : Nat))) (wipe σ vs) H fun σ2 H2 => wipe σ2 vs = wipe σ vs ∧ tt σ2 H2 fun b H3 =>
      if b = true then te σ2 H3 fun y H4 => ∃ acc, H4 D = some (.lst acc) ∧ acc.length < sizeLine ∧ LcB T L H1 D R (i + 1) (upd H4 D (.lst (acc ++ [y]))) else LcB T L H1 D R (i + 1) H3) (hd : ∀ H, LcB T L H1 D R n H → Qd H) :
    ∃ W : Nat → Nat → Hp → Prop, (∃ m, W 0 m (upd H1 D (.lst []))) ∧ ∀ i m H, W i m H →
      ((Itr lo n).stop i H ∧ Qd H) ∨ ((Itr lo n).go i H ∧ ∃ Nx : Hp → Prop, (∀ H', Nx H' → ∃ m', m' < m ∧ W (i + 1) m' H') ∧ ∀ x H', (Itr lo n).yld i H x H' → g x (wipe σ vs) H' fun σ2 H2 => wipe σ2 vs = wipe σ vs ∧ tt σ2 H2 fun b H3 =>
        if b = true then te σ2 H3 fun y H4 => ∃ acc, H4 D = some (.lst acc) ∧ acc.length < sizeLine ∧ Nx (upd H4 D (.lst (acc ++ [y]))) else Nx H3) := by
  obtain ⟨n1, n2⟩ := tp.fresh hn
  refine ⟨fun i m H => m = n - i ∧ i ≤ n ∧ LcB T L H1 D R i H, ⟨n, by simp, Nat.zero_le _, ?_, tp.upd n1 n2, [], rfl, upd_same, fun j o e => by simp at e⟩, ?_⟩
  · intro b u hb h
    rw [upd_ne (fun z => by rw [z, hn] at h; cases h)]; exact h
  rintro i m H ⟨rfl, hi, p⟩
  by_cases hlt : i < n
  · refine .inr ⟨hlt, LcB T L H1 D R (i + 1), fun H' p' => ⟨n - (i + 1), by omega, rfl, hlt, p'⟩, fun x H' y => ?_⟩
    obtain ⟨e, q⟩ := (show H' = H ∧ x = .int (lo + (i : Nat)) from y)
    subst e q
    exact hs i _ hlt p
  · have e : i = n := by omega
    subst e
    exact .inl ⟨Nat.le_refl _, hd H p⟩
/-! ### great -/
theorem scGreat : FnScope ["_law_tape_here", "_law_size", "_law_high", "_law_value"] ["_law_tape_here", "_law_size"] (defScope sGreat) := ⟨rfl, rfl, rfl, by decide +kernel, rfl, by decide +kernel, by decide +kernel⟩
def spGreat : Sp := fun vs H Q _ => ∃ (D L : Addr) (m : Int), vs = [.ref D, .int m] ∧ Tape D L H ∧ 1 ≤ m ∧ ∀ r H', ExB D H H' → Tape D L H' → Q (.int r) H'
theorem scPlace : FnScope ["_law_tape_here"] ["_law_tape_here"] (defScope sPlace) := ⟨rfl, rfl, rfl, by decide +kernel, rfl, by decide +kernel, by decide +kernel⟩
def spPlace : Sp := fun vs H Q _ => ∃ (D L : Addr), vs = [.ref D] ∧ Tape D L H ∧ ∀ t x y H', ExB D H H' → Tape D L H' → H' t = some (.tup [.int x, .int y]) → Q (.ref t) H'
theorem atI3 {α : Type} {x y z : α} {r : Int} (h0 : 0 ≤ r) (h1 : r < 3) : ∃ v, (v = x ∨ v = y ∨ v = z) ∧ atI [x, y, z] r = some v := by
  match r, h0, h1 with
  | 0, _, _ => exact ⟨x, .inl rfl, atI_nat (j := 0) rfl⟩
  | 1, _, _ => exact ⟨y, .inr (.inl rfl), atI_nat (j := 1) rfl⟩
  | 2, _, _ => exact ⟨z, .inr (.inr rfl), atI_nat (j := 2) rfl⟩
theorem atI2 {α : Type} {x y : α} {r : Int} (h0 : 0 ≤ r) (h1 : r < 2) : ∃ v, (v = x ∨ v = y) ∧ atI [x, y] r = some v := by
  match r, h0, h1 with
  | 0, _, _ => exact ⟨x, .inl rfl, atI_nat (j := 0) rfl⟩
  | 1, _, _ => exact ⟨y, .inr rfl, atI_nat (j := 1) rfl⟩
section
variable {P : Program} {w : World} {K : PySem.W.Frag} {mg : Str → Option Value} {base : Heap} {f fD fG : Addr} {fd : FuncData}
theorem ok_great (F : FD K "_law_great" "_law_great" sGreat f fd) (FDr : FnR P w K mg base C0 1 fD spDraw) (GD : Gb K mg "_law_draw" fD) : FnR P w K mg base C0 2 f spGreat := by
  refine rawOf (okOf F scGreat (fun vs H Q E h => ?_) fun cdv A outer s H vs Q E hr h => ?_) (F.bindsN fun _ _ _ _ _ _ us hl => match us, hl with | [_, _], _ => rfl)
  · obtain ⟨_, _, _, rfl, _⟩ := h; rfl
  obtain ⟨D, L, m, rfl, tp, m1, hQ⟩ := h
  refine ⟨_, pss_cons (ps_set (i := 2) scGreat.nd rfl (Or.inl rfl) (pe_op op_add (pe_op op_mul (pe_g FDr GD hr rfl (pa_cons (pv 0) (pa_cons (pe_op op_pow pe_int pe_int) pa_nil))) (pe_op op_pow pe_int pe_int)) (pe_op op_mul (pe_g FDr GD hr rfl (pa_cons (pv 0) (pa_cons (pe_op op_pow pe_int pe_int) pa_nil))) (pe_op op_pow pe_int pe_int))))
    (pss_cons (ps_set (i := 3) scGreat.nd rfl (Or.inl rfl) (pe_ix ix_list (pe_lst (pa_cons (pe_g FDr GD hr rfl (pa_cons (pv 0) (pa_cons pe_int pa_nil))) (pa_cons (pe_g FDr GD hr rfl (pa_cons (pv 0) (pa_cons pe_int pa_nil)))
      (pa_cons (pe_op op_mod (pe_op op_add (pv 2) (pe_g FDr GD hr rfl (pa_cons (pv 0) (pa_cons (pe_op op_pow pe_int pe_int) pa_nil)))) (pv 1)) pa_nil)))) (pe_g FDr GD hr rfl (pa_cons (pv 0) (pa_cons pe_int pa_nil))) (fun _ _ => rfl)))
    (pss_one (ps_ret (pe_op op_mul (pv 3) (pe_ix ix_list (pe_lst (pa_cons pe_int (pa_cons (pe_un un_neg pe_int) pa_nil))) (pe_g FDr GD hr rfl (pa_cons (pv 0) (pa_cons pe_int pa_nil))) (fun _ _ => rfl)))))), ?_⟩
  have p9 : CPow 10 9 := ⟨by decide, by decide, by decide⟩
  have p18 : CPow 10 18 := ⟨by decide, by decide, by decide⟩
  refine ⟨_, rfl, _, _, rfl, rfl, p9, D, L, _, rfl, tp, by decide, by decide, fun r1 H1 a1 b1 e1 t1 => ?_⟩
  refine ⟨_, _, rfl, rfl, p18, _, _, rfl, rfl, .inr ⟨by decide, by decide⟩, ?_⟩
  refine ⟨_, rfl, _, _, rfl, rfl, p9, D, L, _, rfl, t1, by decide, by decide, fun r2 H2 a2 b2 e2 t2 => ?_⟩
  refine ⟨_, _, rfl, rfl, p9, _, _, rfl, rfl, .inr ⟨by decide, by decide⟩, _, _, rfl, rfl, ?_⟩
  refine ⟨_, rfl, D, L, _, rfl, t2, by decide, by decide, fun r3 H3 a3 b3 e3 t3 => ?_⟩
  refine ⟨_, rfl, D, L, _, rfl, t3, by decide, by decide, fun r4 H4 a4 b4 e4 t4 => ?_⟩
  refine ⟨_, rfl, _, rfl, _, _, rfl, rfl, p9, D, L, _, rfl, t4, by decide, by decide, fun r5 H5 a5 b5 e5 t5 => ?_⟩
  refine ⟨_, _, rfl, rfl, _, rfl, _, _, rfl, rfl, by omega, by show 3 ≤ sizeLine; decide, fun p np => ?_⟩
  refine ⟨_, rfl, D, L, _, rfl, t5.e (Ex.upd np), by decide, by decide, fun r6 H6 a6 b6 e6 t6 => ?_⟩
  obtain ⟨z1, z2, z3, hp6⟩ : ∃ z1 z2 z3 : Int, H6 p = some (.lst [.int z1, .int z2, .int z3]) := ⟨_, _, _, e6 _ _ (t5.fresh np).1 upd_same⟩
  obtain ⟨v, hv, hat⟩ := atI3 (x := V.int z1) (y := V.int z2) (z := V.int z3) a6 b6
  obtain ⟨i, rfl⟩ : ∃ i : Int, v = .int i := by
    rcases hv with rfl | rfl | rfl <;> exact ⟨_, rfl⟩
  refine ⟨p, _, _, _, rfl, rfl, SqL.of hp6, hat, ?_⟩
  refine ⟨_, rfl, _, rfl, by show 2 ≤ sizeLine; decide, fun p2 np2 => ?_⟩
  refine ⟨_, rfl, D, L, _, rfl, t6.e (Ex.upd np2), by decide, by decide, fun r7 H7 a7 b7 e7 t7 => ?_⟩
  have hp7 : H7 p2 = some (.lst [.int 1, .int (-1)]) := e7 _ _ (t6.fresh np2).1 upd_same
  obtain ⟨v2, hv2, hat2⟩ := atI2 (x := V.int 1) (y := V.int (-1)) a7 b7
  obtain ⟨j, rfl, hj⟩ : ∃ j : Int, v2 = .int j ∧ (j = 1 ∨ j = -1) := by
    rcases hv2 with rfl | rfl
    · exact ⟨_, rfl, .inl rfl⟩
    · exact ⟨_, rfl, .inr rfl⟩
  refine ⟨p2, _, _, _, rfl, rfl, SqL.of hp7, hat2, _, _, rfl, rfl, .inr ⟨by omega, by omega⟩, ?_⟩
  exact hQ _ _ ((((((e1.trans e2).trans e3).trans e4).trans e5).trans (.of (Ex.upd np))).trans (e6.trans ((ExB.of (Ex.upd np2)).trans e7))) t7
theorem ok_place (F : FD K "_law_place" "_law_place" sPlace f fd) (FG : FnR P w K mg base C0 2 fG spGreat) (GG : Gb K mg "_law_great" fG) : FnR P w K mg base C0 3 f spPlace := by
  refine rawOf (okOf F scPlace (fun vs H Q E h => ?_) fun cdv A outer s H vs Q E hr h => ?_) (F.bindsN fun _ _ _ _ _ _ us hl => match us, hl with | [_], _ => rfl)
  · obtain ⟨_, _, rfl, _⟩ := h; rfl
  obtain ⟨D, L, rfl, tp, hQ⟩ := h
  refine ⟨_, pss_one (ps_ret (pe_tup (pa_cons (pe_g FG GG hr rfl (pa_cons (pv 0) (pa_cons (pe_op op_pow pe_int pe_int) pa_nil))) (pa_cons (pe_g FG GG hr rfl (pa_cons (pv 0) (pa_cons (pe_op op_pow pe_int pe_int) pa_nil))) pa_nil)))), ?_⟩
  have p26 : CPow 10 26 := ⟨by decide, by decide, by decide⟩
  refine ⟨_, rfl, _, _, rfl, rfl, p26, D, L, _, rfl, tp, by decide, fun r1 H1 e1 t1 => ?_⟩
  refine ⟨_, rfl, _, _, rfl, rfl, p26, D, L, _, rfl, t1, by decide, fun r2 H2 e2 t2 => ?_⟩
  exact ⟨by show 2 ≤ sizeLine; decide, fun p np => hQ p _ _ _ ((e1.trans e2).trans (.of (Ex.upd np))) (t2.e (Ex.upd np)) upd_same⟩
end
end Wk
end
section
set_option maxHeartbeats 4000000
/-! The law's nets: low, spots, seen, net, turned, kinds, carried. -/
namespace Wk
open PySem PySem.Spec PyProof.Rows L2 Cl TL LamX
theorem ifB {b : Bool} {A B : Prop} (h1 : b = true → A) (h2 : b = false → B) : if b = true then A else B := by
  cases b
  · rw [if_neg (by decide)]; exact h2 rfl
  · rw [if_pos rfl]; exact h1 rfl
/-- a net of the law: a tuple of three numbers -/
def NT (H : Hp) (t : Addr) (a b c : Int) : Prop := H t = some (.tup [.int a, .int b, .int c]) ∧ Mn.Ok a b c ∧ a * c ≤ 1000
theorem NT.ex {H H' : Hp} {t : Addr} {a b c : Int} (h : NT H t a b c) (e : Ex H H') : NT H' t a b c := ⟨e _ _ h.1, h.2⟩
theorem NT.i {H H' : Hp} {t : Addr} {a b c : Int} (h : NT H t a b c) (e : ∀ b xs, H b = some (.tup xs) → H' b = some (.tup xs)) : NT H' t a b c := ⟨e _ _ h.1, h.2⟩
theorem NT.le {H : Hp} {t : Addr} {a b c : Int} (h : NT H t a b c) : 1 ≤ a ∧ a ≤ 1000 ∧ 1 ≤ c ∧ c ≤ 1000 ∧ 0 ≤ b ∧ b < a ∧ a * c ≤ 1000 ∧ 1 ≤ a * c := by
  obtain ⟨_, ok, h3⟩ := h
  have a0 := ok.a
  have c0 := ok.c1
  have h1 := le_mul_pos (a := a) (x := c) (by omega) c0
  have h2 := le_mul_pos (a := c) (x := a) (by omega) (by omega)
  rw [Int.mul_comm] at h2
  exact ⟨by omega, by omega, by omega, by omega, ok.b0, ok.ba, h3, by omega⟩
theorem scLow : FnScope ["_law_net_here", "_law_place_here", "_law_times"] ["_law_net_here", "_law_place_here"] (defScope sLow) := ⟨rfl, rfl, rfl, by decide +kernel, rfl, by decide +kernel, by decide +kernel⟩
def spLow : Sp := fun vs H Q _ => ∃ (s t : Addr) (a b c x y : Int), vs = [.ref s, .ref t] ∧ NT H s a b c ∧ H t = some (.tup [.int x, .int y]) ∧ ∀ z H', Ex H H' → H' z = some (.tup [.int (Mn.lowx a b c x y), .int (Mn.lowy c y)]) → Q (.ref z) H'
theorem scSpots : FnScope ["_law_net_here", "_law_at"] ["_law_net_here"] (defScope sSpots) := ⟨rfl, rfl, rfl, by decide +kernel, rfl, by decide +kernel, by decide +kernel⟩
def spSpotsL : Sp := fun vs H Q _ => ∃ (s : Addr) (a b c : Int), vs = [.ref s] ∧ NT H s a b c ∧ ∀ D ts H', Ex H H' → H' D = some (.lst (ts.map V.ref)) → Spots a c ts H' → Q (.ref D) H'
theorem scSeenL : FnScope ["_law_net_here", "_law_text", "_law_place_here", "_law_x", "_law_y"] ["_law_net_here", "_law_text", "_law_place_here"] (defScope sSeenL) := ⟨rfl, rfl, rfl, by decide +kernel, rfl, by decide +kernel, by decide +kernel⟩
def spSeenL : Sp := fun vs H Q _ => ∃ (s t : Addr) (a b c x y : Int) (l : List Nat), vs = [.ref s, .str (mkS l), .ref t] ∧ NT H s a b c ∧ H t = some (.tup [.int x, .int y]) ∧ l.length = (a * c).toNat ∧ ∀ n H', Ex H H' → n ∈ l → Q (.str (mkS [n])) H'
theorem scNetL : FnScope ["_law_tape_here", "_law_most", "_law_wide"] ["_law_tape_here", "_law_most"] (defScope sNetL) := ⟨rfl, rfl, rfl, by decide +kernel, rfl, by decide +kernel, by decide +kernel⟩
def spNetL : Sp := fun vs H Q _ => ∃ (D L : Addr) (m : Int), vs = [.ref D, .int m] ∧ Tape D L H ∧ 1 ≤ m ∧ m ≤ 1000 ∧ ∀ t a b c H', ExB D H H' → Tape D L H' → NT H' t a b c → a * c ≤ m → Q (.ref t) H'
theorem scTurnedL : FnScope ["_law_kind", "_law_place_here", "_law_x", "_law_y"] ["_law_kind", "_law_place_here"] (defScope sTurnedL) := ⟨rfl, rfl, rfl, by decide +kernel, rfl, by decide +kernel, by decide +kernel⟩
def spTurnedL : Sp := fun vs H Q _ => ∃ (k : Str) (t : Addr) (x y : Int), vs = [.str k, .ref t] ∧ H t = some (.tup [.int x, .int y]) ∧ ∀ z x' y' H', Ex H H' → H' z = some (.tup [.int x', .int y']) → (k = "none" → x' = x ∧ y' = y) → Q (.ref z) H'
def kindsL : List Str := ["none", "left", "half", "right", "flip", "mirror", "swap", "cross"]
theorem scKindsL : FnScope [] [] (defScope sKindsL) := ⟨rfl, rfl, rfl, by decide +kernel, rfl, by decide +kernel, by decide +kernel⟩
def spKindsL : Sp := fun vs H Q _ => vs = [] ∧ ∀ D H', Ex H H' → H' D = some (.lst (kindsL.map V.str)) → Q (.ref D) H'
theorem scCarried : FnScope ["_law_move_here", "_law_place_here", "_law_x", "_law_y"] ["_law_move_here", "_law_place_here"] (defScope sCarried) := ⟨rfl, rfl, rfl, by decide +kernel, rfl, by decide +kernel, by decide +kernel⟩
/-- a move of the law -/
def MvT (H : Hp) (m : Addr) : Prop := ∃ (k : Str) (s : Addr) (dx dy : Int), H m = some (.tup [.str k, .ref s]) ∧ H s = some (.tup [.int dx, .int dy])
theorem MvT.i {H H' : Hp} {m : Addr} (h : MvT H m) (e : ∀ b xs, H b = some (.tup xs) → H' b = some (.tup xs)) : MvT H' m := by
  obtain ⟨k, s, dx, dy, h1, h2⟩ := h
  exact ⟨k, s, dx, dy, e _ _ h1, e _ _ h2⟩
def spCarried : Sp := fun vs H Q _ => ∃ (m t : Addr) (x y : Int), vs = [.ref m, .ref t] ∧ MvT H m ∧ H t = some (.tup [.int x, .int y]) ∧ ∀ z x' y' H', Ex H H' → H' z = some (.tup [.int x', .int y']) → Q (.ref z) H'
section
variable {P : Program} {w : World} {K : PySem.W.Frag} {mg : Str → Option Value} {base : Heap} {f fD fG fL fT : Addr} {fd : FuncData}
theorem ok_low (F : FD K "_law_low" "_law_low" sLow f fd) : FnR P w K mg base C0 1 f spLow := by
  refine rawOf (okOf F scLow (fun vs H Q E h => ?_) fun cdv A outer s H vs Q E hr h => ?_) (F.bindsN fun _ _ _ _ _ _ us hl => match us, hl with | [_, _], _ => rfl)
  · obtain ⟨_, _, _, _, _, _, _, rfl, _⟩ := h; rfl
  obtain ⟨u, t, a, b, c, x, y, rfl, hn, ht, hQ⟩ := h
  obtain ⟨a1, a2, c1, c2, b1, b2, ac, ac1⟩ := hn.le
  have hu := hn.1
  refine ⟨_, pss_cons (ps_set (i := 2) scLow.nd rfl (Or.inl rfl) (pe_op op_fdiv (pe_ix ix_tup (pv 1) pe_int (fun _ _ => rfl)) (pe_ix ix_tup (pv 0) pe_int (fun _ _ => rfl))))
    (pss_one (ps_ret (pe_tup (pa_cons (pe_op op_mod (pe_op op_sub (pe_ix ix_tup (pv 1) pe_int (fun _ _ => rfl)) (pe_op op_mul (pv 2) (pe_ix ix_tup (pv 0) pe_int (fun _ _ => rfl)))) (pe_ix ix_tup (pv 0) pe_int (fun _ _ => rfl)))
      (pa_cons (pe_op op_sub (pe_ix ix_tup (pv 1) pe_int (fun _ _ => rfl)) (pe_op op_mul (pv 2) (pe_ix ix_tup (pv 0) pe_int (fun _ _ => rfl)))) pa_nil))))), ?_⟩
  have t0 := atI_nat (xs := [V.int x, V.int y]) (j := 0) rfl
  have t1 := atI_nat (xs := [V.int x, V.int y]) (j := 1) rfl
  have n0 := atI_nat (xs := [V.int a, V.int b, V.int c]) (j := 0) rfl
  have n1 := atI_nat (xs := [V.int a, V.int b, V.int c]) (j := 1) rfl
  have n2 := atI_nat (xs := [V.int a, V.int b, V.int c]) (j := 2) rfl
  have tt := SqT.of (K := K) ht
  have nn := SqT.of (K := K) hu
  refine ⟨_, rfl, t, _, _, _, rfl, rfl, tt, t1, _, rfl, u, _, _, _, rfl, rfl, nn, n2, _, _, rfl, rfl, ⟨by omega, by omega⟩, ?_⟩
  refine ⟨_, rfl, t, _, _, _, rfl, rfl, tt, t0, _, rfl, _, rfl, u, _, _, _, rfl, rfl, nn, n1, _, _, rfl, rfl, .inr ⟨by omega, by omega⟩, _, _, rfl, rfl, ?_⟩
  refine ⟨_, rfl, u, _, _, _, rfl, rfl, nn, n0, _, _, rfl, rfl, (by omega : 0 < a), ?_⟩
  refine ⟨_, rfl, t, _, _, _, rfl, rfl, tt, t1, _, rfl, _, rfl, u, _, _, _, rfl, rfl, nn, n2, _, _, rfl, rfl, .inr ⟨by omega, by omega⟩, _, _, rfl, rfl, ?_⟩
  exact ⟨by show 2 ≤ sizeLine; decide, fun p np => hQ p _ (Ex.upd np) upd_same⟩
theorem ok_spotsL (F : FD K "_law_spots" "_law_spots" sSpots f fd) (B : Bl mg) : FnR P w K mg base C0 1 f spSpotsL := by
  refine rawOf (okOf F scSpots (fun vs H Q E h => ?_) fun cdv A outer s H vs Q E hr h => ?_) (F.bindsN fun _ _ _ _ _ _ us hl => match us, hl with | [_], _ => rfl)
  · obtain ⟨_, _, _, _, rfl, _⟩ := h; rfl
  obtain ⟨u, a, b, c, rfl, hn, hQ⟩ := h
  obtain ⟨a1, a2, c1, c2, b1, b2, ac, ac1⟩ := hn.le
  have hu := hn.1
  refine ⟨_, pss_one (ps_ret (pe_lc (own := [("_law_at", 1)]) (g := gName 1) (tt := tYes) rfl scSpots.nd (pi_range1 rfl B.range (pa_cons (pe_op op_mul (pe_ix ix_tup (pv 0) pe_int (fun _ _ => rfl)) (pe_ix ix_tup (pv 0) pe_int (fun _ _ => rfl))) pa_nil)) (blkOk_by (N := ["_law_net_here", "_law_at"]) (sc := defScope sSpots) (by decide +kernel))
      (fun _ _ _ _ _ => pg_name (i := 1) scSpots.nd rfl (Or.inl rfl)) (fun _ _ _ _ _ => pts_nil)
      (fun _ _ _ _ _ => pe_tup (pa_cons (pe_op op_mod (pv 1) (pe_ix (ixT (K := K) rfl) (pv 0) pe_int (fun _ _ => rfl))) (pa_cons (pe_op op_fdiv (pv 1) (pe_ix (ixT (K := K) rfl) (pv 0) pe_int (fun _ _ => rfl))) pa_nil))))), ?_⟩
  have n0 := atI_nat (xs := [V.int a, V.int b, V.int c]) (j := 0) rfl
  have n2 := atI_nat (xs := [V.int a, V.int b, V.int c]) (j := 2) rfl
  refine ⟨_, rfl, u, _, _, _, rfl, rfl, SqT.of hu, n0, _, rfl, u, _, _, _, rfl, rfl, SqT.of hu, n2, _, _, rfl, rfl, .inr ⟨by omega, by omega⟩, ?_⟩
  refine ⟨a * c, rfl, by omega, by omega, fun D hD => ?_⟩
  have hmono : MonR (fun (j : Nat) (o : Option V) (H : Hp) => ∃ t, o = some (.ref t) ∧ H t = some (.tup [.int ((j : Int) % a), .int ((j : Int) / a)])) := fun j o H H' e ⟨t, h1, h2⟩ => ⟨t, h1, e _ _ h2 fun _ z => by cases z⟩
  refine lc_by (R := fun j o H => ∃ t, o = some (.ref t) ∧ H t = some (.tup [.int ((j : Int) % a), .int ((j : Int) / a)])) walk_range hD (fun i x H1 hi hx p => ?_) (fun H1 p => ?_)
  · subst hx
    have hu1 := p.1 _ _ hu
    refine ⟨rfl, _, rfl, _, rfl, u, _, _, _, rfl, rfl, SqT.of hu1, n0, _, _, rfl, rfl, (by omega : 0 < a), ?_⟩
    refine ⟨_, rfl, _, rfl, u, _, _, _, rfl, rfl, SqT.of hu1, n0, _, _, rfl, rfl, ⟨by omega, by omega⟩, ?_⟩
    refine ⟨by show 2 ≤ sizeLine; decide, fun t nt => ?_⟩
    refine p.yes hmono hD (Ex.upd nt) ⟨t, rfl, ?_⟩ (by show i < 2 ^ 24; omega)
    rw [upd_same, Int.zero_add]
  · obtain ⟨e, outs, hl, hDl, ho⟩ := p
    have hts : ∃ ts : List Addr, outs = ts.map (fun t => some (V.ref t)) ∧ ∀ (i : Nat) (t : Addr), ts[i]? = some t → H1 t = some (.tup [.int ((i : Int) % a), .int ((i : Int) / a)]) := by
      refine ⟨outs.map fun o => match o with | some (.ref t) => t | _ => 0, ?_, fun i t ht => ?_⟩
      · refine List.ext_getElem? fun j => ?_
        rw [List.getElem?_map, List.getElem?_map]
        cases hj : outs[j]? with
        | none => rfl
        | some o =>
          obtain ⟨t, h1, _⟩ := ho j o hj
          subst h1
          rfl
      · rw [List.getElem?_map] at ht
        cases hj : outs[i]? with
        | none => rw [hj] at ht; cases ht
        | some o =>
          obtain ⟨t', h1, h2⟩ := ho i o hj
          subst h1
          rw [hj] at ht
          have : t' = t := Option.some.inj ht
          rw [← this]; exact h2
    obtain ⟨ts, h1, h2⟩ := hts
    refine hQ D ts H1 e ?_ ⟨?_, h2⟩
    · rw [hDl, h1, fm_some]
    · rw [← List.length_map (f := fun t => some (V.ref t)), ← h1, hl]
theorem low_cell {a b c x y : Int} (ok : Mn.Ok a b c) : 0 ≤ Mn.lowx a b c x y ∧ Mn.lowx a b c x y < a ∧ 0 ≤ Mn.lowy c y ∧ Mn.lowy c y < c := by
  have := ok.a
  have := ok.c
  rw [Mn.lowy_eq]
  exact ⟨Int.emod_nonneg _ (by omega), Int.emod_lt_of_pos _ (by omega), Int.emod_nonneg _ (by omega), Int.emod_lt_of_pos _ (by omega)⟩
theorem ok_seenL (F : FD K "_law_seen" "_law_seen" sSeenL f fd) (FL : FnR P w K mg base C0 1 fL spLow) (GL : Gb K mg "_law_low" fL) : FnR P w K mg base C0 2 f spSeenL := by
  refine rawOf (okOf F scSeenL (fun vs H Q E h => ?_) fun cdv A outer s H vs Q E hr h => ?_) (F.bindsN fun _ _ _ _ _ _ us hl => match us, hl with | [_, _, _], _ => rfl)
  · obtain ⟨_, _, _, _, _, _, _, _, rfl, _⟩ := h; rfl
  obtain ⟨u, t, a, b, c, x, y, l, rfl, hn, ht, hl, hQ⟩ := h
  obtain ⟨a1, a2, c1, c2, b1, b2, ac, ac1⟩ := hn.le
  refine ⟨_, pss_cons (ps_asg (pe_g FL GL hr rfl (pa_cons (pv 0) (pa_cons (pv 2) pa_nil))) (pg_tup rfl (pgs_cons (pg_name (i := 3) scSeenL.nd rfl (Or.inl rfl)) (pgs_cons (pg_name (i := 4) scSeenL.nd rfl (Or.inl rfl)) pgs_nil))))
    (pss_one (ps_ret (pe_ix ix_str (pv 1) (pe_op op_add (pe_op op_mul (pv 4) (pe_ix ix_tup (pv 0) pe_int (fun _ _ => rfl))) (pv 3)) (fun _ _ => rfl)))), ?_⟩
  refine ⟨_, rfl, _, rfl, u, t, a, b, c, x, y, rfl, hn, ht, fun z H1 e1 hz => ?_⟩
  obtain ⟨q1, q2, q3, q4⟩ := low_cell (x := x) (y := y) hn.2.1
  refine ⟨z, _, rfl, SqT.of hz, rfl, _, _, rfl, _, _, rfl, rfl, ?_⟩
  obtain ⟨w1, w2, _, _⟩ := cell_ix q1 q2 q3 q4
  obtain ⟨n, hn1⟩ : ∃ n, l[(Mn.lowy c y * a + Mn.lowx a b c x y).toNat]? = some n := ⟨_, List.getElem?_eq_getElem (by omega)⟩
  have hat := atI_nat hn1
  rw [Int.toNat_of_nonneg w1] at hat
  refine ⟨_, rfl, _, rfl, _, rfl, u, _, _, _, rfl, rfl, SqT.of (e1 _ _ hn.1), atI_nat (j := 0) rfl, _, _, rfl, rfl, .inr ⟨by omega, by omega⟩, _, rfl, _, _, rfl, rfl, ?_⟩
  refine ⟨_, _, n, rfl, rfl, by rw [mkS_len, hl]; show _ ≤ 2 ^ 24; omega, ?_, ?_⟩
  · rw [mkS_list]; exact hat
  · exact hQ n H1 e1 (List.mem_of_getElem? hn1)
theorem ok_netL (F : FD K "_law_net" "_law_net" sNetL f fd) (FDr : FnR P w K mg base C0 1 fD spDraw) (GD : Gb K mg "_law_draw" fD) : FnR P w K mg base C0 2 f spNetL := by
  refine rawOf (okOf F scNetL (fun vs H Q E h => ?_) fun cdv A outer s H vs Q E hr h => ?_) (F.bindsN fun _ _ _ _ _ _ us hl => match us, hl with | [_, _], _ => rfl)
  · obtain ⟨_, _, _, rfl, _⟩ := h; rfl
  obtain ⟨D, L, m, rfl, tp, m1, m2, hQ⟩ := h
  refine ⟨_, pss_cons (ps_set (i := 2) scNetL.nd rfl (Or.inl rfl) (pe_op op_add pe_int (pe_g FDr GD hr rfl (pa_cons (pv 0) (pa_cons (pv 1) pa_nil)))))
    (pss_one (ps_ret (pe_tup (pa_cons (pv 2) (pa_cons (pe_g FDr GD hr rfl (pa_cons (pv 0) (pa_cons (pv 2) pa_nil))) (pa_cons (pe_op op_add pe_int (pe_g FDr GD hr rfl (pa_cons (pv 0) (pa_cons (pe_op op_fdiv (pv 1) (pv 2)) pa_nil)))) pa_nil)))))), ?_⟩
  refine ⟨_, rfl, _, rfl, D, L, m, rfl, tp, m1, by omega, fun r1 H1 x1 y1 e1 t1 => ?_⟩
  refine ⟨_, _, rfl, rfl, ?_⟩
  refine ⟨_, rfl, _, rfl, _, rfl, D, L, _, rfl, t1, by omega, by omega, fun r2 H2 x2 y2 e2 t2 => ?_⟩
  have h1 : 1 ≤ m / (1 + r1) := Int.le_ediv_of_mul_le (by omega) (by omega)
  have h2 := Int.ediv_le_self (1 + r1) (show 0 ≤ m by omega)
  refine ⟨_, rfl, _, rfl, _, rfl, _, _, rfl, rfl, ⟨by omega, by omega⟩, D, L, _, rfl, t2, h1, by omega, fun r3 H3 x3 y3 e3 t3 => ?_⟩
  refine ⟨_, _, rfl, rfl, by show 3 ≤ sizeLine; decide, fun p np => ?_⟩
  have hac : (1 + r1) * (1 + r3) ≤ m := by
    have h3 : (1 + r1) * (1 + r3) ≤ (1 + r1) * (m / (1 + r1)) := Int.mul_le_mul_of_nonneg_left (by omega) (by omega)
    have h4 := Int.mul_ediv_self_le (x := m) (k := 1 + r1) (by omega)
    omega
  exact hQ p _ _ _ _ (((e1.trans e2).trans e3).trans (.of (Ex.upd np))) (t3.e (Ex.upd np)) ⟨upd_same, ⟨x2, y2, by omega⟩, by omega⟩ hac
theorem ok_kindsL (F : FD K "_law_kinds" "_law_kinds" sKindsL f fd) : FnR P w K mg base C0 1 f spKindsL := by
  refine rawOf (okOf F scKindsL (fun vs H Q E h => ?_) fun cdv A outer s H vs Q E hr h => ?_) (F.bindsN fun _ _ _ _ _ _ us hl => match us, hl with | [], _ => rfl)
  · obtain ⟨rfl, _⟩ := h; rfl
  obtain ⟨rfl, hQ⟩ := h
  refine ⟨_, pss_one (ps_ret (pe_lst (pa_cons pe_str (pa_cons pe_str (pa_cons pe_str (pa_cons pe_str (pa_cons pe_str (pa_cons pe_str (pa_cons pe_str (pa_cons pe_str pa_nil)))))))))), ?_⟩
  exact ⟨by show 8 ≤ sizeLine; decide, fun p np => hQ p _ (Ex.upd np) upd_same⟩
theorem ok_carried (F : FD K "_law_carried" "_law_carried" sCarried f fd) (FT : FnR P w K mg base C0 1 fT spTurnedL) (GT : Gb K mg "_law_turned" fT) : FnR P w K mg base C0 2 f spCarried := by
  refine rawOf (okOf F scCarried (fun vs H Q E h => ?_) fun cdv A outer s H vs Q E hr h => ?_) (F.bindsN fun _ _ _ _ _ _ us hl => match us, hl with | [_, _], _ => rfl)
  · obtain ⟨_, _, _, _, rfl, _⟩ := h; rfl
  obtain ⟨m, t, x, y, rfl, ⟨k, u, dx, dy, hm, hu⟩, ht, hQ⟩ := h
  refine ⟨_, pss_cons (ps_asg (pe_g FT GT hr rfl (pa_cons (pe_ix ix_tup (pv 0) pe_int (fun _ _ => rfl)) (pa_cons (pv 1) pa_nil))) (pg_tup rfl (pgs_cons (pg_name (i := 2) scCarried.nd rfl (Or.inl rfl)) (pgs_cons (pg_name (i := 3) scCarried.nd rfl (Or.inl rfl)) pgs_nil))))
    (pss_one (ps_ret (pe_tup (pa_cons (pe_op op_add (pv 2) (pe_ix ix_tup (pe_ix ix_tup (pv 0) pe_int (fun _ _ => rfl)) pe_int (fun _ _ => rfl))) (pa_cons (pe_op op_add (pv 3) (pe_ix ix_tup (pe_ix ix_tup (pv 0) pe_int (fun _ _ => rfl)) pe_int (fun _ _ => rfl))) pa_nil))))), ?_⟩
  have m0 := atI_nat (xs := [V.str k, V.ref u]) (j := 0) rfl
  have m1 := atI_nat (xs := [V.str k, V.ref u]) (j := 1) rfl
  refine ⟨_, rfl, m, _, _, _, rfl, rfl, SqT.of hm, m0, _, rfl, k, t, x, y, rfl, ht, fun z x' y' H1 e1 hz _ => ?_⟩
  refine ⟨z, _, rfl, SqT.of hz, rfl, _, _, rfl, _, _, rfl, rfl, ?_⟩
  have hm1 := SqT.of (K := K) (e1 _ _ hm)
  have hu1 := SqT.of (K := K) (e1 _ _ hu)
  refine ⟨_, rfl, _, rfl, m, _, _, _, rfl, rfl, hm1, m1, u, _, _, _, rfl, rfl, hu1, atI_nat (j := 0) rfl, _, _, rfl, rfl, ?_⟩
  refine ⟨_, rfl, _, rfl, m, _, _, _, rfl, rfl, hm1, m1, u, _, _, _, rfl, rfl, hu1, atI_nat (j := 1) rfl, _, _, rfl, rfl, ?_⟩
  exact ⟨by show 2 ≤ sizeLine; decide, fun p np => hQ p _ _ _ (e1.trans (Ex.upd np)) upd_same⟩
end
end Wk
end
section
set_option maxHeartbeats 4000000
/-! turned, divisor, keeps, move. -/
namespace Wk
open PySem PySem.Spec PyProof.Rows L2 Cl TL LamX
theorem scDivisor : FnScope ["_law_one", "_law_other"] ["_law_one", "_law_other"] (defScope sDivisor) := ⟨rfl, rfl, rfl, by decide +kernel, rfl, by decide +kernel, by decide +kernel⟩
def spDivisor : Sp := fun vs H Q _ => ∃ i j : Int, vs = [.int i, .int j] ∧ 1 ≤ i ∧ ∀ r, 1 ≤ r → r ≤ i → Q (.int r) H
theorem scKeeps : FnScope ["_law_net_here", "_law_kind", "_law_rows", "_law_row"] ["_law_net_here", "_law_kind"] (defScope sKeeps) := ⟨rfl, rfl, rfl, by decide +kernel, rfl, by decide +kernel, by decide +kernel⟩
def spKeeps : Sp := fun vs H Q _ => ∃ (n : Addr) (a b c : Int) (k : Str), vs = [.ref n, .str k] ∧ NT H n a b c ∧ ∀ v H', Ex H H' → (k = "none" → v = true) → Q (.bl v) H'
theorem scMoveL : FnScope ["_law_tape_here", "_law_net_here", "_law_some", "_law_kind"] ["_law_tape_here", "_law_net_here"] (defScope sMoveL) := ⟨rfl, rfl, rfl, by decide +kernel, rfl, by decide +kernel, by decide +kernel⟩
def spMoveL : Sp := fun vs H Q _ => ∃ (D L n : Addr) (a b c : Int), vs = [.ref D, .ref n] ∧ Tape D L H ∧ NT H n a b c ∧ ∀ z H', ExB D H H' → Tape D L H' → MvT H' z → Q (.ref z) H'
theorem neDT {X : Cx} {K : PySem.W.Frag} (h : X.K = K) (hu : X.A.units + 64 < cLine) : OpR X (compareOp .NotEq) (rNeD K) := h ▸ op_neD hu
section
variable {P : Program} {w : World} {K : PySem.W.Frag} {mg : Str → Option Value} {base : Heap} {f fD fG fL fT fK fS : Addr} {fd : FuncData}
theorem ok_turnedL (F : FD K "_law_turned" "_law_turned" sTurnedL f fd) : FnR P w K mg base C0 1 f spTurnedL := by
  refine rawOf (okOf F scTurnedL (fun vs H Q E h => ?_) fun cdv A outer s H vs Q E hr h => ?_) (F.bindsN fun _ _ _ _ _ _ us hl => match us, hl with | [_, _], _ => rfl)
  · obtain ⟨_, _, _, _, rfl, _⟩ := h; rfl
  obtain ⟨k, t, x, y, rfl, ht, hQ⟩ := h
  refine ⟨_, pss_cons (ps_asg (pv 1) (pg_tup rfl (pgs_cons (pg_name (i := 2) scTurnedL.nd rfl (Or.inl rfl)) (pgs_cons (pg_name (i := 3) scTurnedL.nd rfl (Or.inl rfl)) pgs_nil))))
    (pss_cons (ps_if (pt_cmpR op_in_seq (pv 0) (pe_lst (pa_cons pe_str (pa_cons pe_str pa_nil))) rfl) (pss_one (ps_ret (pe_ifExp (pt_cmpR op_eq (pv 0) pe_str (nomark _)) (pe_tup (pa_cons (pv 2) (pa_cons (pv 3) pa_nil))) (pe_tup (pa_cons (pv 2) (pa_cons (pe_op op_sub pe_int (pv 3)) pa_nil)))))) pss_nil)
    (pss_cons (ps_if (pt_cmpR op_in_seq (pv 0) (pe_lst (pa_cons pe_str (pa_cons pe_str pa_nil))) rfl) (pss_one (ps_ret (pe_ifExp (pt_cmpR op_eq (pv 0) pe_str (nomark _)) (pe_tup (pa_cons (pe_op op_sub pe_int (pv 3)) (pa_cons (pv 2) pa_nil))) (pe_tup (pa_cons (pv 3) (pa_cons (pe_op op_sub pe_int (pv 2)) pa_nil)))))) pss_nil)
    (pss_cons (ps_if (pt_cmpR op_in_seq (pv 0) (pe_lst (pa_cons pe_str (pa_cons pe_str pa_nil))) rfl) (pss_one (ps_ret (pe_ifExp (pt_cmpR op_eq (pv 0) pe_str (nomark _)) (pe_tup (pa_cons (pe_op op_sub pe_int (pv 2)) (pa_cons (pe_op op_sub pe_int (pv 3)) pa_nil))) (pe_tup (pa_cons (pe_op op_sub pe_int (pv 2)) (pa_cons (pv 3) pa_nil)))))) pss_nil)
    (pss_one (ps_ret (pe_ifExp (pt_cmpR op_eq (pv 0) pe_str (nomark _)) (pe_tup (pa_cons (pv 3) (pa_cons (pv 2) pa_nil))) (pe_tup (pa_cons (pe_op op_sub pe_int (pv 3)) (pa_cons (pe_op op_sub pe_int (pv 2)) pa_nil))))))))), ?_⟩
  have two : 2 ≤ sizeLine := by decide
  refine ⟨_, rfl, t, _, rfl, SqT.of ht, rfl, _, _, rfl, _, _, rfl, rfl, ?_⟩
  refine ⟨_, rfl, two, fun p1 np1 => ⟨p1, _, rfl, .inl (SqL.of upd_same), rfl, rfl, _, rfl, ?_⟩⟩
  refine ifB (fun h1 => ?_) fun h1 => ?_
  · refine ⟨_, rfl, rfl, _, rfl, ?_⟩
    refine ifD (fun h2 => ?_) fun h2 => ?_
    · exact ⟨_, rfl, _, rfl, two, fun p np => hQ p _ _ _ ((Ex.upd np1).trans (Ex.upd np)) upd_same fun _ => ⟨rfl, rfl⟩⟩
    · refine ⟨_, rfl, _, rfl, _, _, rfl, rfl, two, fun p np => hQ p _ _ _ ((Ex.upd np1).trans (Ex.upd np)) upd_same fun z => absurd ?_ h2⟩
      rw [z]
  have hk : ∀ x' y' : Int, k = "none" → x' = x ∧ y' = y := fun _ _ z => by
    subst z
    exact absurd h1 (by decide +kernel)
  refine ⟨_, rfl, two, fun p2 np2 => ⟨p2, _, rfl, .inl (SqL.of upd_same), rfl, rfl, _, rfl, ?_⟩⟩
  refine ifB (fun h1 => ?_) fun h1 => ?_
  · refine ⟨_, rfl, rfl, _, rfl, ?_⟩
    refine ifD (fun h2 => ?_) fun h2 => ?_
    · exact ⟨_, rfl, _, _, rfl, rfl, _, rfl, two, fun p np => hQ p _ _ _ (((Ex.upd np1).trans (Ex.upd np2)).trans (Ex.upd np)) upd_same (hk _ _)⟩
    · exact ⟨_, rfl, _, rfl, _, _, rfl, rfl, two, fun p np => hQ p _ _ _ (((Ex.upd np1).trans (Ex.upd np2)).trans (Ex.upd np)) upd_same (hk _ _)⟩
  refine ⟨_, rfl, two, fun p3 np3 => ⟨p3, _, rfl, .inl (SqL.of upd_same), rfl, rfl, _, rfl, ?_⟩⟩
  refine ifB (fun h1 => ?_) fun h1 => ?_
  · refine ⟨_, rfl, rfl, _, rfl, ?_⟩
    refine ifD (fun h2 => ?_) fun h2 => ?_
    · exact ⟨_, rfl, _, _, rfl, rfl, _, rfl, _, _, rfl, rfl, two, fun p np => hQ p _ _ _ ((((Ex.upd np1).trans (Ex.upd np2)).trans (Ex.upd np3)).trans (Ex.upd np)) upd_same (hk _ _)⟩
    · exact ⟨_, rfl, _, _, rfl, rfl, _, rfl, two, fun p np => hQ p _ _ _ ((((Ex.upd np1).trans (Ex.upd np2)).trans (Ex.upd np3)).trans (Ex.upd np)) upd_same (hk _ _)⟩
  · refine ⟨_, rfl, rfl, _, rfl, ?_⟩
    refine ifD (fun h2 => ?_) fun h2 => ?_
    · exact ⟨_, rfl, _, rfl, two, fun p np => hQ p _ _ _ ((((Ex.upd np1).trans (Ex.upd np2)).trans (Ex.upd np3)).trans (Ex.upd np)) upd_same (hk _ _)⟩
    · exact ⟨_, rfl, _, _, rfl, rfl, _, rfl, _, _, rfl, rfl, two, fun p np => hQ p _ _ _ ((((Ex.upd np1).trans (Ex.upd np2)).trans (Ex.upd np3)).trans (Ex.upd np)) upd_same (hk _ _)⟩
theorem ok_divisor (F : FD K "_law_divisor" "_law_divisor" sDivisor f fd) (B : Bl mg) : FnR P w K mg base C0 1 f spDivisor := by
  refine rawOf (okOf F scDivisor (fun vs H Q E h => ?_) fun cdv A outer s H vs Q E hr h => ?_) (F.bindsN fun _ _ _ _ _ _ us hl => match us, hl with | [_, _], _ => rfl)
  · obtain ⟨_, _, rfl, _⟩ := h; rfl
  obtain ⟨i, j, rfl, i1, hQ⟩ := h
  refine ⟨_, pss_cons (ps_while PassesOwn.never (pt_cmpR op_ne (pv 1) pe_int (nomark _)) (pss_one (ps_par (i := 0) (j := 1) rfl scDivisor.nd rfl rfl (by decide) rfl rfl (pa_cons (pv 1) (pa_cons (pe_op op_modN (pv 0) (pv 1)) pa_nil)) rfl)))
    (pss_one (ps_ret (pe_callB call_abs rfl B.abs (by decide +kernel) (pa_cons (pv 0) pa_nil)))), ?_⟩
  refine while_by (fun σ H' => H' = H ∧ ∃ x y : Int, σ = [some (.int x), some (.int y)] ∧ (x ≠ 0 ∨ y ≠ 0) ∧ ∀ d, d ∣ x → d ∣ y → d ∣ i) (fun σ _ => match σ with | [_, some (.int y)] => y.natAbs | _ => 0) ⟨rfl, _, _, rfl, .inl (by omega), fun d h _ => h⟩ ?_ ?_
  · rintro σ H' ⟨rfl, x, y, rfl, hxy, hd⟩
    refine ⟨_, rfl, rfl, _, rfl, ?_⟩
    by_cases h0 : y = 0
    · subst h0
      rw [decide_eq_true rfl]
      refine iteF ⟨_, rfl, ?_⟩
      have hx : x ≠ 0 := hxy.elim id fun h => absurd rfl h
      have hdv : x ∣ i := hd x (Int.dvd_refl x) (Int.dvd_zero x)
      have hle : (x.natAbs : Int) ≤ i := Int.le_of_dvd (by omega) (Int.natAbs_dvd.mpr hdv)
      refine ⟨_, rfl, ?_⟩
      refine hQ _ ?_ ?_ <;> (split <;> omega)
    · rw [decide_eq_false (fun z => h0 (by injection z))]
      refine iteT ⟨_, rfl, _, rfl, _, rfl, _, _, rfl, rfl, h0, _, _, rfl, ⟨rfl, _, _, rfl, .inl h0, fun d h1 h2 => ?_⟩, ?_⟩
      · refine hd d ?_ h1
        have e := Int.mul_fdiv_add_fmod x y
        rw [← e]
        exact Int.dvd_add (Int.dvd_trans h1 (Int.dvd_mul_right ..)) h2
      · show (x.fmod y).natAbs < y.natAbs
        rcases Int.lt_or_gt_of_ne h0 with h | h
        · have e := Int.neg_fmod_neg (-x) (-y)
          rw [Int.neg_neg, Int.neg_neg] at e
          have h1 := Int.fmod_nonneg_of_pos (-x) (b := -y) (by omega)
          have h2 := Int.fmod_lt_of_pos (-x) (b := -y) (by omega)
          omega
        · have h1 := Int.fmod_nonneg_of_pos x h
          have h2 := Int.fmod_lt_of_pos x h
          omega
  · rintro σ H' Q1 Q2 hq ⟨v, e, sc, b, e3, h⟩
    exact ⟨v, e, sc, b, e3, hq _ _ h⟩
theorem ok_keeps (F : FD K "_law_keeps" "_law_keeps" sKeeps f fd) (FT : FnR P w K mg base C0 1 fT spTurnedL) (GT : Gb K mg "_law_turned" fT) (FL : FnR P w K mg base C0 1 fL spLow) (GL : Gb K mg "_law_low" fL) : FnR P w K mg base C0 2 f spKeeps := by
  refine rawOf (okOf F scKeeps (fun vs H Q E h => ?_) fun cdv A outer s H vs Q E hr h => ?_) (F.bindsN fun _ _ _ _ _ _ us hl => match us, hl with | [_, _], _ => rfl)
  · obtain ⟨_, _, _, _, _, rfl, _⟩ := h; rfl
  obtain ⟨n, a, b, c, k, rfl, hn, hQ⟩ := h
  have hu := hr.units
  obtain ⟨a1, a2, c1, c2, b1, b2, ac, ac1⟩ := hn.le
  refine ⟨_, pss_cons (ps_set (i := 2) scKeeps.nd rfl (Or.inl rfl) (pe_lst (pa_cons (pe_g FT GT hr rfl (pa_cons (pv 1) (pa_cons (pe_tup (pa_cons (pe_ix ix_tup (pv 0) pe_int (fun _ _ => rfl)) (pa_cons pe_int pa_nil))) pa_nil)))
      (pa_cons (pe_g FT GT hr rfl (pa_cons (pv 1) (pa_cons (pe_tup (pa_cons (pe_ix ix_tup (pv 0) pe_int (fun _ _ => rfl)) (pa_cons (pe_ix ix_tup (pv 0) pe_int (fun _ _ => rfl)) pa_nil))) pa_nil))) pa_nil))))
    (pss_one (ps_ret (pe_cmpR (op_eqD hu) (pe_lc (own := [("_law_row", 3)]) (g := gName 3) rfl scKeeps.nd (pi_list (pv 2)) (blkOk_by (N := ["_law_net_here", "_law_kind", "_law_rows", "_law_row"]) (sc := defScope sKeeps) (by decide +kernel))
      (fun _ _ _ _ _ => pg_name (i := 3) scKeeps.nd rfl (Or.inl rfl)) (fun _ _ _ _ _ => pts_one (pt_cmpR (neDT (K := K) rfl hu) (pe_g FL GL hr rfl (pa_cons (pv 0) (pa_cons (pv 3) pa_nil))) (pe_tup (pa_cons pe_int (pa_cons pe_int pa_nil))) (nomark _))) (fun _ _ _ _ _ => pv 3)) (pe_lst pa_nil) (nomark _)))), ?_⟩
  have n0 := atI_nat (xs := [V.int a, V.int b, V.int c]) (j := 0) rfl
  have n1 := atI_nat (xs := [V.int a, V.int b, V.int c]) (j := 1) rfl
  have n2 := atI_nat (xs := [V.int a, V.int b, V.int c]) (j := 2) rfl
  have two : 2 ≤ sizeLine := by decide
  refine ⟨_, rfl, _, rfl, n, _, _, _, rfl, rfl, SqT.of hn.1, n0, two, fun p1 np1 => ?_⟩
  have e1 : Ex H (upd H p1 (.tup [.int a, .int 0])) := Ex.upd np1
  refine ⟨k, p1, a, 0, rfl, upd_same, fun z1 x1 y1 H1 e2 hz1 hk1 => ?_⟩
  have hn1 := hn.ex (e1.trans e2)
  refine ⟨_, rfl, _, rfl, n, _, _, _, rfl, rfl, SqT.of hn1.1, n1, _, rfl, n, _, _, _, rfl, rfl, SqT.of hn1.1, n2, two, fun p2 np2 => ?_⟩
  have e3 : Ex H1 (upd H1 p2 (.tup [.int b, .int c])) := Ex.upd np2
  refine ⟨k, p2, b, c, rfl, upd_same, fun z2 x2 y2 H2 e4 hz2 hk2 => ?_⟩
  have hn2 := (hn1.ex e3).ex e4
  have hz1' := e4 _ _ (e3 _ _ hz1)
  refine ⟨two, fun p np => ?_⟩
  have e5 : Ex H2 (upd H2 p (.lst [.ref z1, .ref z2])) := Ex.upd np
  have hL : upd H2 p (.lst [.ref z1, .ref z2]) p = some (.lst [.ref z1, .ref z2]) := upd_same
  refine ⟨_, rfl, p, rfl, ⟨_, SqL.of hL⟩, fun D hD => ?_⟩
  have hmono : MonR (fun (j : Nat) (o : Option V) (H : Hp) => (k = "none" → o = none) ∧ ∀ v, o = some v → ∃ t x y, v = .ref t ∧ H t = some (.tup [.int x, .int y])) := fun j o H H' e ⟨h0, h1⟩ => ⟨h0, fun v hv => by
    obtain ⟨t, x, y, q1, q2⟩ := h1 v hv
    exact ⟨t, x, y, q1, e _ _ q2 fun _ z => by cases z⟩⟩
  have hcell : ∀ (i : Nat) (v : V), [V.ref z1, V.ref z2][i]? = some v → ∃ t x y, v = .ref t ∧ upd H2 p (.lst [.ref z1, .ref z2]) t = some (.tup [.int x, .int y]) ∧ (k = "none" → (x = a ∧ y = 0) ∨ (x = b ∧ y = c)) := fun i v hv => by
    match i, hv with
    | 0, hv =>
      obtain rfl : V.ref z1 = v := by simpa using hv
      exact ⟨z1, x1, y1, rfl, e5 _ _ hz1', fun z => .inl (hk1 z)⟩
    | 1, hv =>
      obtain rfl : V.ref z2 = v := by simpa using hv
      exact ⟨z2, x2, y2, rfl, e5 _ _ hz2, fun z => .inr (hk2 z)⟩
  refine lc_by (R := fun j o H => (k = "none" → o = none) ∧ ∀ v, o = some v → ∃ t x y, v = .ref t ∧ H t = some (.tup [.int x, .int y])) (walk_lst (SqL.of hL)) hD (fun i v H3 hi hv q => ?_) (fun H3 q => ?_)
  · obtain ⟨t, x, y, rfl, ht, hk⟩ := hcell i v hv
    have ht3 := q.1 _ _ ht
    refine ⟨rfl, _, rfl, _, rfl, n, t, a, b, c, x, y, rfl, (hn2.ex e5).ex q.1, ht3, fun z H4 e6 hz => ?_⟩
    refine ⟨two, fun p3 np3 => ?_⟩
    have e7 : Ex H4 (upd H4 p3 (.tup [.int 0, .int 0])) := Ex.upd np3
    refine ⟨.tuple [.int (Mn.lowx a b c x y), .int (Mn.lowy c y)], .tuple [.int 0, .int 0], .tup (SqT.of (e7 _ _ hz)) (.cons (.int _) (.cons (.int _) .nil)), .tup (SqT.of upd_same) (.cons (.int _) (.cons (.int _) .nil)), rfl, rfl, _, rfl, ?_⟩
    by_cases hkn : k = "none"
    · have hz0 : Mn.lowx a b c x y = 0 ∧ Mn.lowy c y = 0 := by
        unfold Mn.lowx Mn.lowy
        rcases hk hkn with ⟨rfl, rfl⟩ | ⟨rfl, rfl⟩
        · simp
        · rw [Int.ediv_self (by omega)]
          simp
      rw [hz0.1, hz0.2]
      exact q.no hmono (e6.trans e7) ⟨fun _ => rfl, fun v z => by cases z⟩
    · refine ifB (fun _ => ?_) fun _ => ?_
      · exact ⟨_, rfl, q.yes hmono hD (e6.trans e7) ⟨fun z => absurd z hkn, fun v z => by
          cases z
          exact ⟨t, x, y, rfl, e7 _ _ (e6 _ _ ht3)⟩⟩ (by have : i < 2 := hi; exact Nat.lt_of_lt_of_le this two)⟩
      · exact q.no hmono (e6.trans e7) ⟨fun z => absurd z hkn, fun v z => by cases z⟩
  · obtain ⟨e6, outs, hl, hDl, ho⟩ := q
    refine ⟨Nat.zero_le _, fun p3 np3 => ?_⟩
    have e7 : Ex H3 (upd H3 p3 (.lst [])) := Ex.upd np3
    obtain ⟨ds, hds, hsh, hd0⟩ : ∃ ds : List PyData, DpAll K (upd H3 p3 (.lst [])) (outs.filterMap id) ds ∧ SeqAt.shaped (.list ds) = true ∧ (k = "none" → ds = []) := by
      match outs, hl with
      | [o1, o2], _ =>
        obtain ⟨g1, k1⟩ := ho 0 o1 rfl
        obtain ⟨g2, k2⟩ := ho 1 o2 rfl
        have mk : ∀ t x y, H3 t = some (.tup [.int x, .int y]) → Dp K (upd H3 p3 (.lst [])) (.ref t) (.tuple [.int x, .int y]) := fun t x y q => .tup (SqT.of (e7 _ _ q)) (.cons (.int _) (.cons (.int _) .nil))
        cases o1 with
        | none =>
          cases o2 with
          | none => exact ⟨[], .nil, rfl, fun _ => rfl⟩
          | some v2 =>
            obtain ⟨t, x, y, rfl, q⟩ := k2 _ rfl
            exact ⟨_, .cons (mk _ _ _ q) .nil, rfl, fun z => absurd (g2 z) (by simp)⟩
        | some v1 =>
          obtain ⟨t, x, y, rfl, q⟩ := k1 _ rfl
          cases o2 with
          | none => exact ⟨_, .cons (mk _ _ _ q) .nil, rfl, fun z => absurd (g1 z) (by simp)⟩
          | some v2 =>
            obtain ⟨t2, x2, y2, rfl, q2⟩ := k2 _ rfl
            exact ⟨_, .cons (mk _ _ _ q) (.cons (mk _ _ _ q2) .nil), rfl, fun z => absurd (g1 z) (by simp)⟩
    refine ⟨.list ds, .list [], .lst (SqL.of (e7 _ _ hDl)) hds, .lst (SqL.of upd_same) .nil, hsh, rfl, ?_⟩
    exact hQ _ _ ((((((e1.trans e2).trans e3).trans e4).trans e5).trans e6).trans e7) fun z => by rw [hd0 z]; rfl
theorem ok_moveL (F : FD K "_law_move" "_law_move" sMoveL f fd) (B : Bl mg) (FDr : FnR P w K mg base C0 1 fD spDraw) (GD : Gb K mg "_law_draw" fD) (FK : FnR P w K mg base C0 1 fK spKindsL) (GK : Gb K mg "_law_kinds" fK) (FS : FnR P w K mg base C0 2 fS spKeeps) (GS : Gb K mg "_law_keeps" fS) : FnR P w K mg base C0 3 f spMoveL := by
  refine rawOf (okOf F scMoveL (fun vs H Q E h => ?_) fun cdv A outer s H vs Q E hr h => ?_) (F.bindsN fun _ _ _ _ _ _ us hl => match us, hl with | [_, _], _ => rfl)
  · obtain ⟨_, _, _, _, _, _, rfl, _⟩ := h; rfl
  obtain ⟨D, L, n, a, b, c, rfl, tp, hn, hQ⟩ := h
  refine ⟨_, pss_cons (ps_setLc (i := 2) (own := [("_law_kind", 3)]) (g := gName 3) rfl scMoveL.nd rfl rfl (sw_true rfl rfl rfl (by decide +kernel)) (pi_list (pe_g0 FK GK (hr.mono (by decide)) rfl)) (blkOk_by (N := ["_law_tape_here", "_law_net_here", "_law_some", "_law_kind"]) (sc := defScope sMoveL) (by decide +kernel))
      (fun _ _ _ _ _ => pg_name (i := 3) scMoveL.nd rfl (Or.inl rfl)) (fun _ _ _ _ _ => pts_one (pt_val (pe_g FS GS (hr.mono (by decide)) rfl (pa_cons (pv 1) (pa_cons (pv 3) pa_nil))))) (fun _ _ _ _ _ => pv 3))
    (pss_one (ps_ret (pe_tup (pa_cons (pe_ix ix_list (pv 2) (pe_g FDr GD (hr.mono (by decide)) rfl (pa_cons (pv 0) (pa_cons (pe_callB call_len_seq rfl B.len PySem.boot_len (pa_cons (pv 2) pa_nil)) pa_nil))) (fun _ _ => rfl))
      (pa_cons (pe_tup (pa_cons (pe_op op_sub (pe_g FDr GD (hr.mono (by decide)) rfl (pa_cons (pv 0) (pa_cons pe_int pa_nil))) pe_int) (pa_cons (pe_op op_sub (pe_g FDr GD (hr.mono (by decide)) rfl (pa_cons (pv 0) (pa_cons pe_int pa_nil))) pe_int) pa_nil))) pa_nil))))), ?_⟩
  have two : 2 ≤ sizeLine := by decide
  refine ⟨rfl, fun p H1 e1 hp => ?_⟩
  refine ⟨p, rfl, ⟨_, SqL.of hp⟩, fun D1 hD1 => ?_⟩
  have hn1 := hn.ex e1
  refine lc_by (R := fun j o H => (j = 0 → o = some (.str "none")) ∧ ∀ v, o = some v → ∃ k : Str, v = .str k) (walk_lst (SqL.of hp)) hD1 (fun i v H3 hi hv q => ?_) (fun H3 q => ?_)
  · obtain ⟨kk, hk, rfl⟩ : ∃ kk : Str, kindsL[i]? = some kk ∧ v = .str kk := by
      rw [List.getElem?_map] at hv
      obtain ⟨kk, h1, h2⟩ := Option.map_eq_some_iff.mp hv
      exact ⟨kk, h1, h2.symm⟩
    have hi8 : i < 8 := hi
    refine ⟨rfl, _, rfl, _, rfl, n, a, b, c, kk, rfl, hn1.ex q.1, fun bv H4 e4 hb => ⟨_, rfl, ?_⟩⟩
    have hm : MonR (fun (j : Nat) (o : Option V) (_ : Hp) => (j = 0 → o = some (.str "none")) ∧ ∀ v, o = some v → ∃ k : Str, v = .str k) := fun j o H H' _ r => r
    refine ifB (fun h => ?_) fun h => ?_
    · refine ⟨_, rfl, q.yes hm hD1 e4 ⟨fun z => ?_, fun v z => ⟨kk, by cases z; rfl⟩⟩ (by show i < 2 ^ 24; omega)⟩
      subst z
      cases hk
      rfl
    · refine q.no hm e4 ⟨fun z => ?_, fun v z => by cases z⟩
      subst z
      cases hk
      rw [hb rfl] at h
      cases h
  · obtain ⟨e3, outs, hl, hDl, ho⟩ := q
    have hlen : outs.length = 8 := hl
    obtain ⟨ks, hks, hk1⟩ : ∃ ks : List Str, outs.filterMap id = ks.map V.str ∧ 1 ≤ ks.length := by
      match outs, hlen with
      | o :: r, hlen =>
        have h0 := (ho 0 o rfl).1 rfl
        subst h0
        have key : ∀ l : List (Option V), (∀ o ∈ l, ∀ v, o = some v → ∃ k : Str, v = .str k) → ∃ ks : List Str, l.filterMap id = ks.map V.str := by
          intro l
          induction l with
          | nil => intro _; exact ⟨[], rfl⟩
          | cons o r ih =>
            intro h
            obtain ⟨ks, hks⟩ := ih fun o ho => h o (List.mem_cons_of_mem _ ho)
            cases o with
            | none => exact ⟨ks, by simpa using hks⟩
            | some v =>
              obtain ⟨k, rfl⟩ := h _ List.mem_cons_self v rfl
              exact ⟨k :: ks, by simpa using hks⟩
        obtain ⟨ks, hks⟩ := key r fun o hmem v hv => by
          obtain ⟨j, hj⟩ := List.getElem?_of_mem hmem
          exact (ho (j + 1) o (by simpa using hj)).2 v hv
        exact ⟨"none" :: ks, by simpa using hks, by simp⟩
    have hk8 : ks.length ≤ 8 := by
      have h1 := List.length_filterMap_le id outs
      rw [hks, List.length_map] at h1
      omega
    have ex := e1.trans e3
    have t3 := tp.e ex
    have hnD := (t3.fresh (p := D1))
    rw [hks] at hDl
    have nDD : D1 ≠ D := ((tp.e e1).fresh hD1).1
    refine ⟨_, rfl, _, rfl, _, rfl, D1, _, rfl, .inl (SqL.of hDl), D, L, _, rfl, t3, ?_, ?_, fun r1 H4 x1 y1 e4 t4 => ?_⟩
    · rw [List.length_map]; omega
    · rw [List.length_map]; omega
    rw [List.length_map] at y1
    have hD4 := e4 _ _ nDD hDl
    obtain ⟨kk, hkk⟩ : ∃ kk, ks[r1.toNat]? = some kk := ⟨_, List.getElem?_eq_getElem (by omega)⟩
    have hat := atI_nat (xs := ks.map V.str) (j := r1.toNat) (v := .str kk) (by rw [List.getElem?_map, hkk]; rfl)
    rw [Int.toNat_of_nonneg x1] at hat
    refine ⟨D1, _, _, _, rfl, rfl, SqL.of hD4, hat, ?_⟩
    refine ⟨_, rfl, D, L, _, rfl, t4, by decide, by decide, fun r2 H5 x2 y2 e5 t5 => ⟨_, _, rfl, rfl, ?_⟩⟩
    refine ⟨_, rfl, D, L, _, rfl, t5, by decide, by decide, fun r3 H6 x3 y3 e6 t6 => ⟨_, _, rfl, rfl, two, fun p1 np1 => ⟨two, fun p2 np2 => ?_⟩⟩⟩
    have e7 : Ex H6 (upd H6 p1 (.tup [.int (r2 - 2), .int (r3 - 2)])) := Ex.upd np1
    have e8 := Ex.upd (o := .tup [.str kk, .ref p1]) np2
    exact hQ p2 _ (((((ExB.of ex).trans e4).trans e5).trans e6).trans (.of (e7.trans e8))) (t6.e (e7.trans e8)) ⟨kk, p1, _, _, upd_same, e8 _ _ upd_same⟩
end
end Wk
end
section
set_option maxHeartbeats 4000000
/-! tied. -/
namespace Wk
open PySem PySem.Spec PyProof.Rows L2 Cl TL LamX
/-- a for over a thing that stands in an earlier heap -/
theorem for_byE {J : It} {Hb H1 : Hp} {n : Nat} {item : Nat → V → Prop} {g : TG} {tb : TS} {D : Ends} {σ : L2.St} (wk : Walk J Hb n item) (Pv : Nat → L2.St → Hp → Prop) (h0 : Pv 0 σ H1) (hx : ∀ i σ H, i ≤ n → Pv i σ H → Ex Hb H)
    (hs : ∀ i x σ H, i < n → item i x → Pv i σ H → g x σ H fun σ2 H2 => tb { D with nx := Pv (i + 1), ct := Pv (i + 1), bk := D.nx } σ2 H2) (hd : ∀ σ H, Pv n σ H → D.nx σ H) :
    ∃ W : Nat → Nat → L2.St → Hp → Prop, (∃ m, W 0 m σ H1) ∧ ∀ i m σ H, W i m σ H →
      (J.stop i H ∧ D.nx σ H) ∨ (J.go i H ∧ ∃ N : L2.St → Hp → Prop, (∀ σ' H', N σ' H' → ∃ m', m' < m ∧ W (i + 1) m' σ' H') ∧ ∀ x H', J.yld i H x H' → g x σ H' fun σ2 H2 => tb { D with nx := N, ct := N, bk := D.nx } σ2 H2) := by
  refine ⟨fun i m σ H => m = n - i ∧ i ≤ n ∧ Pv i σ H, ⟨n, by simp, Nat.zero_le _, h0⟩, ?_⟩
  rintro i m σ H ⟨rfl, hi, p⟩
  have e1 := hx i σ H hi p
  by_cases hlt : i < n
  · refine .inr ⟨wk.go i H e1 hlt, Pv (i + 1), fun σ' H' p' => ⟨n - (i + 1), by omega, rfl, hlt, p'⟩, fun x H' y => ?_⟩
    obtain ⟨e, q⟩ := wk.yld i H x H' e1 hlt y
    subst e
    exact hs i x σ _ hlt q p
  · have e : i = n := by omega
    subst e
    exact .inl ⟨wk.stop H e1, hd σ H p⟩
theorem ext_put {H1 H : Hp} {D : Addr} {u : HO} (h : H1 D = none) (e : Ex H1 H) : Ex H1 (upd H D u) := fun b o q => by
  rw [upd_ne (ne_of_none q h)]; exact e b o q
/-- within the cell -/
def InC (a c : Int) (p : Int × Int) : Prop := 0 ≤ p.1 ∧ p.1 < a ∧ 0 ≤ p.2 ∧ p.2 < c
def spotOf (a : Int) (i : Nat) : Int × Int := ((i : Int) % a, (i : Int) / a)
theorem cs_in {a c : Int} {i : Nat} (ha : 0 < a) (hi : i < (a * c).toNat) : InC a c (spotOf a i) :=
  ⟨Int.emod_nonneg _ (by omega), Int.emod_lt_of_pos _ ha, Int.ediv_nonneg (by omega) (by omega), Int.ediv_lt_of_lt_mul ha (by rw [Int.mul_comm c a]; omega)⟩
theorem cs_ix {a c : Int} {p : Int × Int} (h : InC a c p) : ∃ i, i < (a * c).toNat ∧ spotOf a i = p := by
  obtain ⟨h1, h2, h3, h4⟩ := h
  obtain ⟨q1, q2, q3, q4⟩ := cell_ix h1 h2 h3 h4
  refine ⟨(p.2 * a + p.1).toNat, by omega, ?_⟩
  unfold spotOf
  rw [Int.toNat_of_nonneg q1, q3, q4]
theorem cs_inj {a : Int} {i j : Nat} (ha : 0 < a) (h : spotOf a i = spotOf a j) : i = j := by
  unfold spotOf at h
  injection h with h1 h2
  have e1 := Int.mul_ediv_add_emod (i : Int) a
  have e2 := Int.mul_ediv_add_emod (j : Int) a
  rw [h1, h2] at e1
  omega
/-- the found ones as a dict -/
def kvL (ks : List ((Int × Int) × Nat)) : List (List Key × V) := ks.map fun p => ([.inl p.1.1, .inl p.1.2], .str (mkS [p.2]))
theorem kvL_val (ks : List ((Int × Int) × Nat)) (p : Int × Int) : valV (kvL ks) [.inl p.1, .inl p.2] = (ks.lookup p).map fun n => V.str (mkS [n]) := by
  unfold valV kvL
  induction ks with
  | nil => rfl
  | cons q r ih =>
    obtain ⟨q, n⟩ := q
    rw [List.map_cons, List.lookup_cons]
    by_cases h : p = q
    · subst h
      rw [List.find?_cons_of_pos (by simp)]
      simp
    · have h1 : ¬ (([.inl q.1, .inl q.2] : List Key) = [.inl p.1, .inl p.2]) := fun z => h (by
        have := kv_key.mp z
        exact Prod.ext this.1.symm this.2.symm)
      rw [List.find?_cons_of_neg (by simpa using h1), ih]
      have : (p == q) = false := by simpa using h
      rw [this]
theorem kvL_put {ks : List ((Int × Int) × Nat)} {p : Int × Int} {n : Nat} (h : ks.lookup p = none) : putK (kvL ks) [.inl p.1, .inl p.2] (.str (mkS [n])) = kvL (ks ++ [(p, n)]) := by
  unfold putK
  have : ¬ ((kvL ks).any fun kv => decide (kv.1 = [.inl p.1, .inl p.2])) = true := fun z => by
    obtain ⟨kv, h1, h2⟩ := List.any_eq_true.mp z
    obtain ⟨⟨q, m⟩, h3, rfl⟩ := List.mem_map.mp h1
    have h2 : ([.inl q.1, .inl q.2] : List Key) = [.inl p.1, .inl p.2] := of_decide_eq_true h2
    have h4 := kv_key.mp h2
    have h5 : q = p := Prod.ext h4.1 h4.2
    subst h5
    have := List.lookup_eq_none_iff.mp h _ h3
    simp at this
  rw [if_neg this]
  simp [kvL]
/-- how many spots are not found -/
def cntF (a : Int) (N : Nat) (ks : List ((Int × Int) × Nat)) : Nat := (List.range N).countP fun i => (ks.lookup (spotOf a i)).isNone
theorem cnt_lt {p q : Nat → Bool} : ∀ {l : List Nat}, (∀ i ∈ l, q i = true → p i = true) → (∃ i ∈ l, p i = true ∧ q i = false) → l.countP q < l.countP p
  | [], _, h => by obtain ⟨i, h, _⟩ := h; cases h
  | x :: l, hm, h => by
    have mono : l.countP q ≤ l.countP p := List.countP_mono_left fun i hi => hm i (List.mem_cons_of_mem _ hi)
    rw [List.countP_cons, List.countP_cons]
    obtain ⟨i, hi, h1, h2⟩ := h
    rcases List.mem_cons.mp hi with rfl | hi
    · rw [if_pos h1, if_neg (by rw [h2]; decide)]
      omega
    · have := cnt_lt (p := p) (q := q) (l := l) (fun i hi => hm i (List.mem_cons_of_mem _ hi)) ⟨i, hi, h1, h2⟩
      have hx := hm x List.mem_cons_self
      by_cases hq : q x = true
      · rw [if_pos hq, if_pos (hx hq)]; omega
      · rw [if_neg hq]
        split <;> omega
theorem lk_app {ks : List ((Int × Int) × Nat)} {p q : Int × Int} {n : Nat} : (ks ++ [(p, n)]).lookup q = (ks.lookup q).or (if q = p then some n else none) := by
  rw [List.lookup_append]
  congr 1
  rw [List.lookup_cons]
  by_cases h : q = p
  · subst h; simp
  · have : (q == p) = false := by simpa using h
    rw [this, if_neg h]; rfl
theorem cnt_put {a c : Int} {ks : List ((Int × Int) × Nat)} {p : Int × Int} {n : Nat} (hp : InC a c p) (h : ks.lookup p = none) : cntF a (a * c).toNat (ks ++ [(p, n)]) < cntF a (a * c).toNat ks := by
  refine cnt_lt (fun i _ hi => ?_) ?_
  · rw [lk_app] at hi
    cases hl : ks.lookup (spotOf a i) with
    | none => rfl
    | some m => rw [hl] at hi; cases hi
  · obtain ⟨i, h1, h2⟩ := cs_ix hp
    refine ⟨i, List.mem_range.mpr h1, by rw [h2, h]; rfl, ?_⟩
    rw [lk_app, h2, h, if_pos rfl]
    rfl
theorem shaped_cells : ∀ ds : List PyData, (∀ d ∈ ds, ∃ x y : Int, d = .tuple [.int x, .int y]) → PyData.canLayAll0 ds = true ∧ PyData.depthAll ds ≤ 1
  | [], _ => ⟨rfl, Nat.zero_le _⟩
  | d :: ds, h => by
    obtain ⟨x, y, rfl⟩ := h d List.mem_cons_self
    obtain ⟨h1, h2⟩ := shaped_cells ds fun d hd => h d (List.mem_cons_of_mem _ hd)
    refine ⟨?_, ?_⟩
    · show (PyData.canLay0 (.tuple [.int x, .int y]) && PyData.canLayAll0 ds) = true
      rw [h1]; rfl
    · show max 1 (PyData.depthAll ds) ≤ 1
      omega
theorem shaped_cells' {ds : List PyData} (h : ∀ d ∈ ds, ∃ x y : Int, d = .tuple [.int x, .int y]) : SeqAt.shaped (.list ds) = true := by
  obtain ⟨h1, h2⟩ := shaped_cells ds h
  unfold SeqAt.shaped
  rw [Bool.and_eq_true]
  exact ⟨h1, decide_eq_true (show PyData.depthAll ds + 1 ≤ 64 by omega)⟩
theorem dp_cells {K : PySem.W.Frag} {H : Hp} : ∀ (z : List (Addr × (Int × Int))), (∀ q ∈ z, H q.1 = some (.tup [.int q.2.1, .int q.2.2])) → DpAll K H (z.map fun q => V.ref q.1) (z.map fun q => PyData.tuple [.int q.2.1, .int q.2.2])
  | [], _ => .nil
  | q :: z, h => .cons (.tup (SqT.of (h q List.mem_cons_self)) (.cons (.int _) (.cons (.int _) .nil))) (dp_cells z fun q hq => h q (List.mem_cons_of_mem _ hq))
theorem cells_shaped (z : List (Addr × (Int × Int))) : SeqAt.shaped (.list (z.map fun q => PyData.tuple [.int q.2.1, .int q.2.2])) = true := shaped_cells' fun d hd => by
  obtain ⟨q, _, rfl⟩ := List.mem_map.mp hd
  exact ⟨_, _, rfl⟩
theorem scTied : FnScope ["_law_net_here", "_law_text", "_law_moves", "_law_spots_here", "_law_found", "_law_spot", "_law_line", "_law_here", "_law_move_here"] ["_law_net_here", "_law_text", "_law_moves"] (defScope sTied) := ⟨rfl, rfl, rfl, by decide +kernel, rfl, by decide +kernel, by decide +kernel⟩
def spTied : Sp := fun vs H Q _ => ∃ (n mv : Addr) (a b c : Int) (l : List Nat) (ms : List Addr), vs = [.ref n, .str (mkS l), .ref mv] ∧ NT H n a b c ∧ l.length = (a * c).toNat ∧ H mv = some (.lst (ms.map V.ref)) ∧ ms.length ≤ 100 ∧ (∀ m ∈ ms, MvT H m) ∧
  ∀ l' H', Ex H H' → l'.length = (a * c).toNat → (∀ k ∈ l', k ∈ l) → Q (.str (mkS l')) H'
theorem eqT {x y u v : Int} : PyData.eqv (.tuple [.int x, .int y]) (.tuple [.int u, .int v]) = (decide (x = u) && decide (y = v)) := by
  by_cases h1 : x = u <;> by_cases h2 : y = v <;> simp [PyData.eqv, PyData.eqvAll, h1, h2]
theorem eqNil {d : PyData} {ds : List PyData} : PyData.eqv (.list (d :: ds)) (.list []) = false := by
  simp [PyData.eqv, PyData.eqvAll]
/-- refs to cells, each with its place -/
def Cells (a c : Int) (H : Hp) (z : List (Addr × (Int × Int))) : Prop := ∀ q ∈ z, H q.1 = some (.tup [.int q.2.1, .int q.2.2]) ∧ InC a c q.2
theorem Cells.i {a c : Int} {H H' : Hp} {z : List (Addr × (Int × Int))} (h : Cells a c H z) (e : ∀ b xs, H b = some (.tup xs) → H' b = some (.tup xs)) : Cells a c H' z := fun q hq => ⟨e _ _ (h q hq).1, (h q hq).2⟩
theorem tu_upd {H : Hp} {p : Addr} {u o : HO} (h : H p = some o) (ho : ∀ xs, o ≠ .tup xs) : ∀ b xs, H b = some (.tup xs) → upd H p u b = some (.tup xs) := fun b xs q => by
  rw [upd_ne (fun z => by rw [z, h] at q; cases q; exact ho _ rfl)]; exact q
theorem tu_new {H : Hp} {p : Addr} {u : HO} (h : H p = none) : ∀ b xs, H b = some (.tup xs) → upd H p u b = some (.tup xs) := fun b xs q => by
  rw [upd_ne (fun z => by rw [z, h] at q; cases q)]; exact q
theorem outs_cells {a c : Int} {H : Hp} : ∀ {outs : List (Option V)}, (∀ o ∈ outs, ∃ t p, o = some (.ref t) ∧ H t = some (.tup [.int p.1, .int p.2]) ∧ InC a c p) → ∃ z : List (Addr × (Int × Int)), z.length = outs.length ∧ outs.filterMap id = z.map (fun q => V.ref q.1) ∧ Cells a c H z
  | [], _ => ⟨[], rfl, rfl, fun q hq => by cases hq⟩
  | o :: r, h => by
    obtain ⟨t, p, rfl, h1, h2⟩ := h o List.mem_cons_self
    obtain ⟨z, q1, q2, q3⟩ := outs_cells (outs := r) fun o ho => h o (List.mem_cons_of_mem _ ho)
    refine ⟨(t, p) :: z, by simp [q1], by simp [q2], fun q hq => ?_⟩
    rcases List.mem_cons.mp hq with rfl | hq
    · exact ⟨h1, h2⟩
    · exact q3 q hq
theorem outs_lets {l : List Nat} : ∀ {outs : List (Option V)}, (∀ o ∈ outs, ∃ n, o = some (.str (mkS [n])) ∧ n ∈ l) → ∃ z : List Nat, z.length = outs.length ∧ outs.filterMap id = (z.map fun n => mkS [n]).map V.str ∧ ∀ n ∈ z, n ∈ l
  | [], _ => ⟨[], rfl, rfl, fun q hq => by cases hq⟩
  | o :: r, h => by
    obtain ⟨n, rfl, h1⟩ := h o List.mem_cons_self
    obtain ⟨z, q1, q2, q3⟩ := outs_lets (outs := r) fun o ho => h o (List.mem_cons_of_mem _ ho)
    refine ⟨n :: z, by simp [q1], by simp [q2], fun q hq => ?_⟩
    rcases List.mem_cons.mp hq with rfl | hq
    · exact h1
    · exact q3 q hq
/-- what is found so far -/
def TI (a c : Int) (l : List Nat) (H1 H : Hp) (D : Addr) (ks : List ((Int × Int) × Nat)) : Prop := Ex H1 H ∧ H D = some (.dT (kvL ks)) ∧ (∀ q ∈ ks, q.2 ∈ l) ∧ ks.length + cntF a (a * c).toNat ks ≤ (a * c).toNat
/-- behind i turns of the outer loop -/
def TP (n mv S D : Addr) (a c : Int) (l : List Nat) (H1 : Hp) (i : Nat) (σ : L2.St) (H : Hp) : Prop := ∃ ks X5 X6 X7 X8, σ = [some (.ref n), some (.str (mkS l)), some (.ref mv), some (.ref S), some (.ref D), X5, X6, X7, X8] ∧ TI a c l H1 H D ks ∧ ∀ j, j < i → (ks.lookup (spotOf a j)).isSome = true
/-- within the inner loop of turn i -/
def TW (n mv S D t : Addr) (a c : Int) (l : List Nat) (M : Nat) (H1 : Hp) (i m : Nat) (σ : L2.St) (H : Hp) : Prop := ∃ ks z ln X7 X8, m = cntF a (a * c).toNat ks * (M + 1) + z.length ∧ σ = [some (.ref n), some (.str (mkS l)), some (.ref mv), some (.ref S), some (.ref D), some (.ref t), some (.ref ln), X7, X8] ∧
  TI a c l H1 H D ks ∧ H1 ln = none ∧ ln ≠ D ∧ H ln = some (.lst (z.map fun q => V.ref q.1)) ∧ Cells a c H z ∧ (∀ j, j < i → (ks.lookup (spotOf a j)).isSome = true) ∧ ((ks.lookup (spotOf a i)).isSome = true ∨ ∃ q ∈ z, q.2 = spotOf a i) ∧ m ≤ (a * c).toNat * (M + 1) + 1
theorem TI.tu {a c : Int} {l : List Nat} {H1 H : Hp} {D : Addr} {ks : List ((Int × Int) × Nat)} (h : TI a c l H1 H D ks) {p : Addr} {u : HO} (n1 : H1 p = none) (n2 : p ≠ D) : TI a c l H1 (upd H p u) D ks :=
  ⟨ext_put n1 h.1, by rw [upd_ne (Ne.symm n2)]; exact h.2.1, h.2.2⟩
theorem TI.e {a c : Int} {l : List Nat} {H1 H H' : Hp} {D : Addr} {ks : List ((Int × Int) × Nat)} (h : TI a c l H1 H D ks) (e : Ex H H') : TI a c l H1 H' D ks := ⟨h.1.trans e, e _ _ h.2.1, h.2.2⟩
section
variable {P : Program} {w : World} {K : PySem.W.Frag} {mg : Str → Option Value} {base : Heap} {f fS fL fC : Addr} {fd : FuncData}
theorem ok_tied (F : FD K "_law_tied" "_law_tied" sTied f fd) (FSp : FnR P w K mg base C0 1 fS spSpotsL) (GS : Gb K mg "_law_spots" fS) (FL : FnR P w K mg base C0 1 fL spLow) (GL : Gb K mg "_law_low" fL) (FC : FnR P w K mg base C0 2 fC spCarried) (GC : Gb K mg "_law_carried" fC) : FnR P w K mg base C0 3 f spTied := by
  refine rawOf (okOf F scTied (fun vs H Q E h => ?_) fun cdv A outer s H vs Q E hr h => ?_) (F.bindsN fun _ _ _ _ _ _ us hl => match us, hl with | [_, _, _], _ => rfl)
  · obtain ⟨_, _, _, _, _, _, _, rfl, _⟩ := h; rfl
  obtain ⟨n, mv, a, b, c, l, ms, rfl, hn, hl, hmv, hms, hmm, hQ⟩ := h
  have hu := hr.units
  have hu1 : (A.deeper (envOfC "_law_tied" (defScope sTied) s.heap.objs.size f cdv)).units + 1 < cLine := by have := hr.un; omega
  have hu65 : (A.deeper (envOfC "_law_tied" (defScope sTied) s.heap.objs.size f cdv)).units + 65 < cLine := by have := hr.un; omega
  refine ⟨_, pss_cons (ps_set (i := 3) scTied.nd rfl (Or.inl rfl) (pe_g FSp GS (hr.mono (by decide)) rfl (pa_cons (pv 0) pa_nil)))
    (pss_cons (ps_set (i := 4) scTied.nd rfl (Or.inr rfl) pe_dnewT)
    (pss_cons (ps_for PassesOwn.never rfl (pi_list (pv 3)) (pg_name (i := 5) scTied.nd rfl (Or.inl rfl))
      (pss_cons (ps_set (i := 6) scTied.nd rfl (Or.inl rfl) (pe_lst (pa_cons (pv 5) pa_nil)))
      (pss_one (ps_while PassesOwn.never (pt_cmpR (op_neD hu) (pv 6) (pe_lst pa_nil) (nomark _))
        (pss_cons (ps_set (i := 7) scTied.nd rfl (Or.inr rfl) (pe_bm0 PySem.F.plainAttrs_list PySem.F.slot_list_pop PySem.F.type_list_pop mt_pop (pv 6)))
        (pss_one (ps_if (pt_cmp (pc_dnotin hu1 (pv 7) (pv 4)) rfl)
          (pss_cons (ps_dput hu1 (pv 4) (pv 7) (pe_ix ix_str (pv 1) (pe_bm PySem.F.plainAttrs_list PySem.F.slot_list_index PySem.F.type_list_index (mt_indexD hu65) (pv 3) (pa_cons (pv 5) pa_nil)) (fun _ _ => rfl)) rfl)
          (pss_one (ps_set (i := 6) scTied.nd rfl (Or.inl rfl) (pe_op op_cat (pv 6) (pe_lc (own := [("_law_move_here", 8)]) (g := gName 8) (tt := tYes) rfl scTied.nd (pi_list (pv 2)) (blkOk_by (N := ["_law_net_here", "_law_text", "_law_moves", "_law_spots_here", "_law_found", "_law_spot", "_law_line", "_law_here", "_law_move_here"]) (sc := defScope sTied) (by decide +kernel))
            (fun _ _ _ _ _ => pg_name (i := 8) scTied.nd rfl (Or.inl rfl)) (fun _ _ _ _ _ => pts_nil) (fun _ _ _ _ _ => pe_g FL GL (hr.mono (by decide)) rfl (pa_cons (pv 0) (pa_cons (pe_g FC GC (hr.mono (by decide)) rfl (pa_cons (pv 8) (pa_cons (pv 7) pa_nil))) pa_nil)))))))) pss_nil)))))))
    (pss_one (ps_ret (pe_join pe_str (pe_lc (own := [("_law_spot", 5)]) (g := gName 5) (tt := tYes) rfl scTied.nd (pi_list (pv 3)) (blkOk_by (N := ["_law_net_here", "_law_text", "_law_moves", "_law_spots_here", "_law_found", "_law_spot", "_law_line", "_law_here", "_law_move_here"]) (sc := defScope sTied) (by decide +kernel))
      (fun _ _ _ _ _ => pg_name (i := 5) scTied.nd rfl (Or.inl rfl)) (fun _ _ _ _ _ => pts_nil) (fun _ _ _ _ _ => pe_dget hu1 (pv 4) (pv 5) (fun _ _ => rfl)))))))), ?_⟩
  obtain ⟨a1, a2, c1, c2, b1, b2, ac, ac1⟩ := hn.le
  have hN : (a * c).toNat ≤ 1000 := by omega
  refine ⟨_, rfl, n, a, b, c, rfl, hn, fun S ts H1 e1 hS hsp => ?_⟩
  have hmv1 := e1 _ _ hmv
  have hn1 := hn.ex e1
  have hmm1 : ∀ m ∈ ms, MvT H1 m := fun m hm => (hmm m hm).i fun _ _ q => e1 _ _ q
  obtain ⟨hts, hspot⟩ := hsp
  intro D nD
  have e2 : Ex H1 (upd H1 D (.dT [])) := Ex.upd nD
  refine ⟨_, rfl, S, rfl, ⟨_, SqL.of (e2 _ _ hS)⟩, ?_⟩
  have hlen : (ts.map V.ref).length = (a * c).toNat := by rw [List.length_map, hts]
  have hds : ∀ H, Ex H1 H → Dp K H (.ref S) (.list ((List.range (a * c).toNat).map fun i => PyData.tuple [.int (spotOf a i).1, .int (spotOf a i).2])) := fun H e => by
    have hz : (List.range (a * c).toNat).map (fun i => PyData.tuple [.int (spotOf a i).1, .int (spotOf a i).2]) = (ts.mapIdx fun i t => (t, spotOf a i)).map fun q => PyData.tuple [.int q.2.1, .int q.2.2] := by
      refine List.ext_getElem? fun i => ?_
      simp only [List.getElem?_map, List.getElem?_mapIdx]
      by_cases hi : i < (a * c).toNat
      · rw [List.getElem?_range hi, List.getElem?_eq_getElem (by omega)]; rfl
      · rw [List.getElem?_eq_none (by simp; omega), List.getElem?_eq_none (by omega)]; rfl
    have hz2 : ts.map V.ref = (ts.mapIdx fun i t => (t, spotOf a i)).map fun q => V.ref q.1 := by
      refine List.ext_getElem? fun i => ?_
      simp only [List.getElem?_map, List.getElem?_mapIdx, Option.map_map]
      rfl
    rw [hz]
    refine .lst (SqL.of (e _ _ hS)) ?_
    rw [hz2]
    refine dp_cells _ fun q hq => ?_
    obtain ⟨i, hi⟩ := List.getElem?_of_mem hq
    rw [List.getElem?_mapIdx] at hi
    obtain ⟨t, h1, rfl⟩ := Option.map_eq_some_iff.mp hi
    exact e _ _ (hspot i t h1)
  have hdsh : SeqAt.shaped (.list ((List.range (a * c).toNat).map fun i => PyData.tuple [.int (spotOf a i).1, .int (spotOf a i).2])) = true := shaped_cells' fun d hd => by
    obtain ⟨i, _, rfl⟩ := List.mem_map.mp hd
    exact ⟨_, _, rfl⟩
  refine for_byE (Hb := H1) (walk_lst (SqL.of hS)) (TP n mv S D a c l H1) ⟨[], none, none, none, none, rfl, ⟨e2, upd_same, (fun q hq => by cases hq), ?_⟩, fun j hj => by omega⟩ (fun i σ H _ ⟨ks, X5, X6, X7, X8, _, ti, _⟩ => ti.1) ?_ ?_
  · have := List.countP_le_length (p := fun i => (([] : List ((Int × Int) × Nat)).lookup (spotOf a i)).isNone) (l := List.range (a * c).toNat)
    rw [List.length_range] at this
    show 0 + cntF a (a * c).toNat [] ≤ (a * c).toNat
    unfold cntF
    omega
  · rintro i x σ H2 hi hx ⟨ks, X5, X6, X7, X8, rfl, ti, hj⟩
    rw [hlen] at hi
    obtain ⟨t, ht, rfl⟩ : ∃ t, ts[i]? = some t ∧ x = .ref t := by
      rw [List.getElem?_map] at hx
      obtain ⟨t, h1, h2⟩ := Option.map_eq_some_iff.mp hx
      exact ⟨t, h1, h2.symm⟩
    have htc := hspot i t ht
    refine ⟨_, rfl, by show 1 ≤ sizeLine; decide, fun ln nln => ?_⟩
    have hln1 : H1 ln = none := by
      cases hq : H1 ln with
      | none => rfl
      | some u => rw [ti.1 _ _ hq] at nln; cases nln
    have hlnD : ln ≠ D := fun z => by rw [z, ti.2.1] at nln; cases nln
    have hcnt0 : cntF a (a * c).toNat ks ≤ (a * c).toNat := by have := ti.2.2.2; omega
    refine ⟨TW n mv S D t a c l ms.length H1 i, ⟨_, ks, [(t, spotOf a i)], ln, X7, X8, rfl, rfl, ti.tu hln1 hlnD, hln1, hlnD, upd_same, ?_, hj, .inr ⟨_, List.mem_singleton.mpr rfl, rfl⟩, ?_⟩, ?_⟩
    · intro q hq
      obtain rfl := List.mem_singleton.mp hq
      exact ⟨tu_new nln _ _ (ti.1 _ _ htc), cs_in (by omega) hi⟩
    · have := Nat.mul_le_mul_right (ms.length + 1) hcnt0
      show _ + 1 ≤ _
      omega
    clear ti hj hcnt0 nln hln1 hlnD ln X5 X6 X7 X8 ks H2
    rintro m σ H2 ⟨ks, z, ln, X7, X8, rfl, rfl, ti, hln1, hlnD, hln, hz, hj, hdis, hm⟩
    refine ⟨_, rfl, Nat.zero_le _, fun p np => ?_⟩
    have ep : Ex H2 (upd H2 p (.lst [])) := Ex.upd np
    refine ⟨.list (z.map fun q => PyData.tuple [.int q.2.1, .int q.2.2]), .list [], .lst (SqL.of (ep _ _ hln)) (dp_cells z fun q hq => ep _ _ (hz q hq).1), .lst (SqL.of upd_same) .nil, cells_shaped z, rfl, _, rfl, ?_⟩
    rcases List.eq_nil_or_concat z with rfl | ⟨zi, q, hzq⟩
    · -- the line is empty
      refine iteF ?_
      refine ⟨ks, _, _, _, _, rfl, ti.e ep, fun j hj2 => ?_⟩
      by_cases h : j < i
      · exact hj j h
      · obtain rfl : j = i := by omega
        rcases hdis with h | ⟨q, hq, _⟩
        · exact h
        · cases hq
    · rw [List.concat_eq_append] at hzq
      have hne : PyData.eqv (.list (z.map fun q => PyData.tuple [.int q.2.1, .int q.2.2])) (.list []) = false := by
        cases z with
        | nil => simp at hzq
        | cons d r => exact eqNil
      rw [hne]
      refine iteT ?_
      subst hzq
      have ti2 := ti.e ep
      have hln2 := ep _ _ hln
      have hz2 := hz.i fun _ _ q => ep _ _ q
      generalize upd H2 p (.lst []) = H3 at *
      clear hne np ep hln hz ti H2
      refine ⟨fun σ' H' => ∃ m', m' < cntF a (a * c).toNat ks * (ms.length + 1) + (zi ++ [q]).length ∧ TW n mv S D t a c l ms.length H1 i m' σ' H', fun σ' H' h => h, ?_⟩
      obtain ⟨hq, hqc⟩ := hz2 q (by simp)
      have hzi : Cells a c H3 zi := fun q hq => hz2 q (List.mem_append_left _ hq)
      have hget : ((zi ++ [q]).map fun q => V.ref q.1)[((zi ++ [q]).map fun q => V.ref q.1).length - 1]? = some (.ref q.1) := by simp
      have hdrop : ((zi ++ [q]).map fun q => V.ref q.1).dropLast = zi.map fun q => V.ref q.1 := by simp
      refine ⟨_, rfl, .inl ⟨rfl, _, SqL.of hln2⟩, ln, _, _, rfl, rfl, hln2, hget, ?_⟩
      rw [hdrop]
      have tu1 : ∀ b xs, H3 b = some (.tup xs) → upd H3 ln (.lst (zi.map fun q => V.ref q.1)) b = some (.tup xs) := tu_upd hln2 fun xs z => by cases z
      have ti3 := ti2.tu (u := .lst (zi.map fun q => V.ref q.1)) hln1 hlnD
      have hln3 : upd H3 ln (.lst (zi.map fun q => V.ref q.1)) ln = some (.lst (zi.map fun q => V.ref q.1)) := upd_same
      have hq3 := tu1 _ _ hq
      have hzi3 := hzi.i tu1
      generalize upd H3 ln (.lst (zi.map fun q => V.ref q.1)) = H4 at *
      clear hln2 hq hzi hz2 ti2 tu1 H3
      refine ⟨_, rfl, _, rfl, D, _, rfl, DGet.t (k := [.inl q.2.1, .inl q.2.2]) ti3.2.1 hq3, _, rfl, ?_⟩
      rw [kvL_val]
      have hzl : (zi ++ [q]).length = zi.length + 1 := by simp
      cases hlk : ks.lookup q.2 with
      | some n0 =>
        refine iteF ?_
        refine ⟨_, ?_, ks, zi, ln, _, _, rfl, rfl, ti3, hln1, hlnD, hln3, hzi3, hj, ?_, ?_⟩
        · omega
        · rcases hdis with h | ⟨q', hq', h2⟩
          · exact .inl h
          · rcases List.mem_append.mp hq' with h3 | h3
            · exact .inr ⟨q', h3, h2⟩
            · obtain rfl := List.mem_singleton.mp h3
              rw [← h2, hlk]
              exact .inl rfl
        · omega
      | none =>
        refine iteT ?_
        obtain ⟨nl, hnl⟩ : ∃ nl, l[i]? = some nl := ⟨_, List.getElem?_eq_getElem (by omega)⟩
        have h0 := ti3.1
        refine ⟨_, rfl, _, rfl, .inl ⟨rfl, _, SqL.of (h0 _ _ hS)⟩, _, rfl, ?_⟩
        refine ⟨S, .ref t, .tuple [.int (spotOf a i).1, .int (spotOf a i).2], _, i, .tuple [.int (spotOf a i).1, .int (spotOf a i).2], rfl, rfl, hds _ h0, .tup (SqT.of (h0 _ _ htc)) (.cons (.int _) (.cons (.int _) .nil)), hdsh, rfl, ?_, ?_, ?_, ?_⟩
        · rw [List.getElem?_map, List.getElem?_range hi]; rfl
        · rw [eqT]; simp
        · intro m' z' hm' hz'
          rw [List.getElem?_map, List.getElem?_range (by omega)] at hz'
          obtain rfl := Option.some.inj hz'
          rw [eqT]
          by_cases hh : spotOf a m' = spotOf a i
          · have := cs_inj (by omega) hh
            omega
          · by_cases h1 : (spotOf a m').1 = (spotOf a i).1
            · have h2 : ¬ (spotOf a m').2 = (spotOf a i).2 := fun h2 => hh (Prod.ext h1 h2)
              rw [decide_eq_false h2, Bool.and_false]
            · rw [decide_eq_false h1, Bool.false_and]
        refine ⟨_, _, nl, rfl, rfl, by rw [mkS_len, hl]; show _ ≤ 2 ^ 24; omega, ?_, ?_⟩
        · rw [mkS_list]; exact atI_nat hnl
        have hkl : (kvL ks).length = ks.length := List.length_map ..
        have hcl := ti3.2.2.2
        refine ⟨_, rfl, _, rfl, D, _, rfl, DPut.t (k := [.inl q.2.1, .inl q.2.2]) ti3.2.1 hq3 (by rw [hkl]; show _ < 2 ^ 24; omega), ?_⟩
        have hput : putK (kvL ks) [.inl q.2.1, .inl q.2.2] (.str ⟨#[nl]⟩) = kvL (ks ++ [(q.2, nl)]) := kvL_put hlk
        rw [hput]
        have ti5 : TI a c l H1 (upd H4 D (.dT (kvL (ks ++ [(q.2, nl)])))) D (ks ++ [(q.2, nl)]) := by
          refine ⟨ext_put nD ti3.1, upd_same, fun q' hq' => ?_, ?_⟩
          · rcases List.mem_append.mp hq' with h | h
            · exact ti3.2.2.1 q' h
            · obtain rfl := List.mem_singleton.mp h
              exact List.mem_of_getElem? hnl
          · have := cnt_put (n := nl) hqc hlk
            rw [List.length_append, List.length_singleton]
            omega
        have hclt := cnt_put (n := nl) hqc hlk
        have tu4 : ∀ b xs, H4 b = some (.tup xs) → upd H4 D (.dT (kvL (ks ++ [(q.2, nl)]))) b = some (.tup xs) := tu_upd ti3.2.1 fun xs z => by cases z
        have hln5 : upd H4 D (.dT (kvL (ks ++ [(q.2, nl)]))) ln = some (.lst (zi.map fun q => V.ref q.1)) := by rw [upd_ne hlnD]; exact hln3
        have hq5 := tu4 _ _ hq3
        have hzi5 := hzi3.i tu4
        generalize upd H4 D (.dT (kvL (ks ++ [(q.2, nl)]))) = H5 at *
        clear hq3 hzi3 hln3 tu4 ti3 h0 hput H4
        have h5 := ti5.1
        refine ⟨_, rfl, _, rfl, mv, rfl, ⟨_, SqL.of (h5 _ _ hmv1)⟩, fun D5 hD5 => ?_⟩
        have hmono : MonR (fun (j : Nat) (o : Option V) (H : Hp) => ∃ (t : Addr) (p : Int × Int), o = some (.ref t) ∧ H t = some (.tup [.int p.1, .int p.2]) ∧ InC a c p) := fun j o H H' e ⟨t, p, h1, h2, h3⟩ => ⟨t, p, h1, e _ _ h2 (fun _ z => by cases z), h3⟩
        refine lc_by (R := fun j o H => ∃ (t : Addr) (p : Int × Int), o = some (.ref t) ∧ H t = some (.tup [.int p.1, .int p.2]) ∧ InC a c p) (walk_lst (SqL.of (h5 _ _ hmv1))) hD5 (fun j v H6 hj6 hv p => ?_) (fun H6 p => ?_)
        · obtain ⟨m0, hm0, rfl⟩ : ∃ m0, ms[j]? = some m0 ∧ v = .ref m0 := by
            rw [List.getElem?_map] at hv
            obtain ⟨t, h1, h2⟩ := Option.map_eq_some_iff.mp hv
            exact ⟨t, h1, h2.symm⟩
          rw [List.length_map] at hj6
          have h6 := h5.trans p.1
          refine ⟨rfl, _, rfl, _, rfl, _, rfl, m0, q.1, q.2.1, q.2.2, rfl, (hmm1 m0 (List.mem_of_getElem? hm0)).i fun _ _ w => h6 _ _ w, p.1 _ _ hq5, fun z1 x' y' H7 e7 hz1 => ?_⟩
          refine ⟨n, z1, a, b, c, x', y', rfl, (hn1.ex h6).ex e7, hz1, fun z2 H8 e8 hz2 => ?_⟩
          exact p.yes hmono hD5 (e7.trans e8) ⟨z2, (Mn.lowx a b c x' y', Mn.lowy c y'), rfl, hz2, low_cell hn.2.1⟩ (by show j < 2 ^ 24; omega)
        · obtain ⟨e6, outs, hol, hD6, ho⟩ := p
          rw [List.length_map] at hol
          obtain ⟨z2, hz2l, hz2e, hz2c⟩ := outs_cells (a := a) (c := c) (H := H6) (outs := outs) fun o hoo => by
            obtain ⟨j, hj⟩ := List.getElem?_of_mem hoo
            exact ho j o hj
          rw [hz2e] at hD6
          have hmul := Nat.mul_le_mul_right (ms.length + 1) (Nat.succ_le_of_lt hclt)
          rw [Nat.succ_mul] at hmul
          have hbig := Nat.mul_le_mul hN (show ms.length + 1 ≤ 101 by omega)
          have hsz : (2 : Nat) ^ 24 = 16777216 := by decide
          refine ⟨ln, D5, _, _, rfl, rfl, e6 _ _ hln5, hD6, ?_, fun p np => ?_⟩
          · rw [List.length_map, List.length_map]
            show _ ≤ 2 ^ 24
            omega
          have ti7 := (ti5.e e6).e (Ex.upd (o := .lst ((zi.map fun q => V.ref q.1) ++ z2.map fun q => V.ref q.1)) np)
          have hp1 : H1 p = none := by
            cases hq : H1 p with
            | none => rfl
            | some u => rw [e6 _ _ (ti5.1 _ _ hq)] at np; cases np
          have hpD : p ≠ D := fun z => by rw [z, (ti5.e e6).2.1] at np; cases np
          refine ⟨_, ?_, ks ++ [(q.2, nl)], zi ++ z2, p, _, _, rfl, rfl, ti7, hp1, hpD, ?_, ?_, ?_, ?_, ?_⟩
          · rw [List.length_append, List.length_append, List.length_singleton]
            omega
          · rw [upd_same, List.map_append]
          · refine Cells.i ?_ (tu_new np)
            intro q' hq'
            rcases List.mem_append.mp hq' with h | h
            · exact (hzi5.i fun _ _ w => e6 _ _ w) q' h
            · exact hz2c q' h
          · intro j hj2
            rw [lk_app]
            have := hj j hj2
            cases hh : ks.lookup (spotOf a j) with
            | none => rw [hh] at this; cases this
            | some _ => rfl
          · rcases hdis with h | ⟨q', hq', h2⟩
            · refine .inl ?_
              rw [lk_app]
              cases hh : ks.lookup (spotOf a i) with
              | none => rw [hh] at h; cases h
              | some _ => rfl
            · rcases List.mem_append.mp hq' with h3 | h3
              · exact .inr ⟨q', List.mem_append_left _ h3, h2⟩
              · obtain rfl := List.mem_singleton.mp h3
                refine .inl ?_
                rw [lk_app, ← h2, hlk, if_pos rfl]
                rfl
          · rw [List.length_append]
            omega
  · rintro σ H2 ⟨ks, X5, X6, X7, X8, rfl, ti, hj⟩
    have h2 := ti.1
    refine ⟨⟨_, rfl⟩, _, rfl, S, rfl, ⟨_, SqL.of (h2 _ _ hS)⟩, fun D5 hD5 => ?_⟩
    rw [hlen] at hj
    refine lc_by (R := fun j o H => ∃ k, o = some (.str (mkS [k])) ∧ k ∈ l) (walk_lst (SqL.of (h2 _ _ hS))) hD5 (fun j v H3 hj3 hv p => ?_) (fun H3 p => ?_)
    · obtain ⟨t, ht, rfl⟩ : ∃ t, ts[j]? = some t ∧ v = .ref t := by
        rw [List.getElem?_map] at hv
        obtain ⟨t, h1, h2⟩ := Option.map_eq_some_iff.mp hv
        exact ⟨t, h1, h2.symm⟩
      rw [hlen] at hj3
      have hsome := hj j hj3
      obtain ⟨k, hk⟩ := Option.isSome_iff_exists.mp hsome
      have hkl : k ∈ l := ti.2.2.1 _ (by
        obtain ⟨l1, l2, h1, h2⟩ := List.lookup_eq_some_iff.mp hk
        rw [h1]; exact List.mem_append_right _ List.mem_cons_self : (spotOf a j, k) ∈ ks)
      have g : DGet H3 D (.ref t) (some (.str (mkS [k]))) := by
        have := DGet.t (k := [.inl (spotOf a j).1, .inl (spotOf a j).2]) (p.1 _ _ ti.2.1) (p.1 _ _ (h2 _ _ (hspot j t ht)))
        rw [kvL_val, hk] at this
        exact this
      refine ⟨rfl, _, rfl, _, rfl, D, _, rfl, g, ?_⟩
      exact p.yes (fun j o H H' _ r => r) hD5 (Ex.refl _) ⟨k, rfl, hkl⟩ (by show j < 2 ^ 24; omega)
    · rw [hlen] at p
      obtain ⟨e3, outs, hol, hD3, ho⟩ := p
      obtain ⟨l', hl1, hl2, hl3⟩ := outs_lets (l := l) (outs := outs) fun o hoo => by
        obtain ⟨j, hj⟩ := List.getElem?_of_mem hoo
        exact ho j o hj
      rw [hl2] at hD3
      refine ⟨_, D5, _, rfl, rfl, .inl (SqL.of hD3), join_ok (by omega), ?_⟩
      rw [join_signs]
      exact hQ l' _ ((e1.trans h2).trans e3) (by omega) hl3
end
end Wk
end
section
set_option maxHeartbeats 4000000
/-! letters, square, copied. -/
namespace Wk
open PySem PySem.Spec PyProof.Rows L2 Cl TL LamX
/-- the letters that the law draws -/
def Ltr (n : Nat) : Prop := n = 97 ∨ n = 98 ∨ n = 99 ∨ n = 113 ∨ n = 114 ∨ n = 122
theorem Ltr.let {n : Nat} (h : Ltr n) : Letter n := by unfold Ltr at h; unfold Letter; omega
theorem Ltr.noy {n : Nat} (h : Ltr n) : n ≠ 121 := by unfold Ltr at h; omega
theorem atI4 {α : Type} {x y z u : α} {r : Int} (h0 : 0 ≤ r) (h1 : r < 4) : ∃ v, (v = x ∨ v = y ∨ v = z ∨ v = u) ∧ atI [x, y, z, u] r = some v := by
  match r, h0, h1 with
  | 0, _, _ => exact ⟨x, .inl rfl, atI_nat (j := 0) rfl⟩
  | 1, _, _ => exact ⟨y, .inr (.inl rfl), atI_nat (j := 1) rfl⟩
  | 2, _, _ => exact ⟨z, .inr (.inr (.inl rfl)), atI_nat (j := 2) rfl⟩
  | 3, _, _ => exact ⟨u, .inr (.inr (.inr rfl)), atI_nat (j := 3) rfl⟩
theorem words {v : V} (h : v = .str "ab" ∨ v = .str "abc" ∨ v = .str "az" ∨ v = .str "qrb") : ∃ l : List Nat, v = .str (mkS l) ∧ 1 ≤ l.length ∧ l.length ≤ 3 ∧ ∀ n ∈ l, Ltr n := by
  have e1 : ("ab" : Str) = mkS [97, 98] := by decide +kernel
  have e2 : ("abc" : Str) = mkS [97, 98, 99] := by decide +kernel
  have e3 : ("az" : Str) = mkS [97, 122] := by decide +kernel
  have e4 : ("qrb" : Str) = mkS [113, 114, 98] := by decide +kernel
  rcases h with rfl | rfl | rfl | rfl
  · exact ⟨[97, 98], by rw [e1], by decide, by decide, fun n h => by simp at h; unfold Ltr; omega⟩
  · exact ⟨[97, 98, 99], by rw [e2], by decide, by decide, fun n h => by simp at h; unfold Ltr; omega⟩
  · exact ⟨[97, 122], by rw [e3], by decide, by decide, fun n h => by simp at h; unfold Ltr; omega⟩
  · exact ⟨[113, 114, 98], by rw [e4], by decide, by decide, fun n h => by simp at h; unfold Ltr; omega⟩
theorem scLetters : FnScope ["_law_tape_here", "_law_many", "_law_some", "_law_k"] ["_law_tape_here", "_law_many"] (defScope sLetters) := ⟨rfl, rfl, rfl, by decide +kernel, rfl, by decide +kernel, by decide +kernel⟩
def spLetters : Sp := fun vs H Q _ => ∃ (D L : Addr) (m : Nat), vs = [.ref D, .int m] ∧ Tape D L H ∧ m ≤ 1000 ∧ ∀ l H', ExB D H H' → Tape D L H' → l.length = m → (∀ n ∈ l, Ltr n) → Q (.str (mkS l)) H'
theorem scSquare : FnScope ["_law_tape_here", "_law_most", "_law_side", "_law_some", "_law_net_here"] ["_law_tape_here", "_law_most"] (defScope sSquare) := ⟨rfl, rfl, rfl, by decide +kernel, rfl, by decide +kernel, by decide +kernel⟩
def spSquare : Sp := fun vs H Q _ => ∃ (D L : Addr), vs = [.ref D, .int 8] ∧ Tape D L H ∧ ∀ t a b c H', ExB D H H' → Tape D L H' → NT H' t a b c → a * c ≤ 8 → Q (.ref t) H'
/-- a net and its text -/
def WV (H : Hp) (z : Addr) (l : List Nat) (a b c : Int) : Prop := ∃ t, H z = some (.tup [.ref t, .str (mkS l)]) ∧ NT H t a b c ∧ l.length = (a * c).toNat
theorem scCopied : FnScope ["_law_tape_here", "_law_net_here", "_law_text", "_law_most", "_law_wide", "_law_high", "_law_larger", "_law_spot"] ["_law_tape_here", "_law_net_here", "_law_text", "_law_most"] (defScope sCopied) := ⟨rfl, rfl, rfl, by decide +kernel, rfl, by decide +kernel, by decide +kernel⟩
def spCopied : Sp := fun vs H Q _ => ∃ (D L n : Addr) (a b c m : Int) (l : List Nat), vs = [.ref D, .ref n, .str (mkS l), .int m] ∧ Tape D L H ∧ NT H n a b c ∧ a * c ≤ m ∧ m ≤ 1000 ∧ l.length = (a * c).toNat ∧
  ∀ z l' a' b' c' H', ExB D H H' → Tape D L H' → WV H' z l' a' b' c' → a' * c' ≤ m → (∀ k ∈ l', k ∈ l) → Q (.ref z) H'
section
variable {P : Program} {w : World} {K : PySem.W.Frag} {mg : Str → Option Value} {base : Heap} {f fD fS fL fC : Addr} {fd : FuncData}
theorem ok_letters (F : FD K "_law_letters" "_law_letters" sLetters f fd) (B : Bl mg) (FDr : FnR P w K mg base C0 1 fD spDraw) (GD : Gb K mg "_law_draw" fD) : FnR P w K mg base C0 2 f spLetters := by
  refine rawOf (okOf F scLetters (fun vs H Q E h => ?_) fun cdv A outer s H vs Q E hr h => ?_) (F.bindsN fun _ _ _ _ _ _ us hl => match us, hl with | [_, _], _ => rfl)
  · obtain ⟨_, _, _, rfl, _⟩ := h; rfl
  obtain ⟨D, L, m, rfl, tp, hm, hQ⟩ := h
  refine ⟨_, pss_cons (ps_set (i := 2) scLetters.nd rfl (Or.inr rfl) (pe_ix ix_list (pe_lst (pa_cons pe_str (pa_cons pe_str (pa_cons pe_str (pa_cons pe_str pa_nil))))) (pe_g FDr GD hr rfl (pa_cons (pv 0) (pa_cons pe_int pa_nil))) (fun _ _ => rfl)))
    (pss_one (ps_ret (pe_join pe_str (pe_lc (own := [("_law_k", 3)]) (g := gName 3) (tt := tYes) rfl scLetters.nd (pi_range1 rfl B.range (pa_cons (pv 1) pa_nil)) (blkOk_by (N := ["_law_tape_here", "_law_many", "_law_some", "_law_k"]) (sc := defScope sLetters) (by decide +kernel))
      (fun _ _ _ _ _ => pg_name (i := 3) scLetters.nd rfl (Or.inl rfl)) (fun _ _ _ _ _ => pts_nil)
      (fun _ _ _ _ _ => pe_ix ix_str (pv 2) (pe_g FDr GD hr rfl (pa_cons (pv 0) (pa_cons (pe_callB call_len_str rfl B.len PySem.boot_len (pa_cons (pv 2) pa_nil)) pa_nil))) (fun _ _ => rfl)))))), ?_⟩
  refine ⟨by show 4 ≤ sizeLine; decide, fun p np => ?_⟩
  refine ⟨_, rfl, D, L, _, rfl, tp.e (Ex.upd np), by decide, by decide, fun r H1 x1 y1 e1 t1 => ?_⟩
  have hp1 : H1 p = some (.lst [.str "ab", .str "abc", .str "az", .str "qrb"]) := e1 _ _ (tp.fresh np).1 upd_same
  obtain ⟨v, hv, hat⟩ := atI4 (x := V.str "ab") (y := V.str "abc") (z := V.str "az") (u := V.str "qrb") x1 y1
  obtain ⟨wd, rfl, w1, w2, hw⟩ := words hv
  refine ⟨p, _, _, _, rfl, rfl, SqL.of hp1, hat, ?_⟩
  have e01 : ExB D H H1 := (ExB.of (Ex.upd np)).trans e1
  refine ⟨⟨_, rfl⟩, _, rfl, m, rfl, by omega, by omega, fun D5 hD5 => ?_⟩
  have hR : MonT (fun (_ : Nat) (o : V) (_ : Hp) => ∃ n, o = .str (mkS [n]) ∧ Ltr n) := fun _ _ _ _ _ r => r
  refine lcB (R := fun _ o _ => ∃ n, o = .str (mkS [n]) ∧ Ltr n) t1 hD5 (fun i H2 hi p => ?_) (fun H2 p => ?_)
  · refine ⟨rfl, _, rfl, _, rfl, _, rfl, _, rfl, by rw [mkS_len]; show _ ≤ 2 ^ 24; omega, D, L, _, rfl, p.2.1, by rw [mkS_len]; omega, by rw [mkS_len]; omega, fun r2 H3 x2 y2 e2 t2 => ?_⟩
    rw [mkS_len] at y2
    obtain ⟨n, hn⟩ : ∃ n, wd[r2.toNat]? = some n := ⟨_, List.getElem?_eq_getElem (by omega)⟩
    have hat2 := atI_nat hn
    rw [Int.toNat_of_nonneg x2] at hat2
    refine ⟨_, _, n, rfl, rfl, by rw [mkS_len]; show _ ≤ 2 ^ 24; omega, by rw [mkS_list]; exact hat2, ?_⟩
    exact p.yes t1 hR hD5 e2 t2 ⟨n, rfl, hw n (List.mem_of_getElem? hn)⟩ (by show i < 2 ^ 24; omega)
  · obtain ⟨e2, t2, ys, hl, hD6, hr6⟩ := p
    have key : ∀ ys : List V, (∀ o ∈ ys, ∃ n, o = .str (mkS [n]) ∧ Ltr n) → ∃ l : List Nat, l.length = ys.length ∧ ys = (l.map fun n => mkS [n]).map V.str ∧ ∀ n ∈ l, Ltr n := by
      intro ys
      induction ys with
      | nil => intro _; exact ⟨[], rfl, rfl, fun n h => by cases h⟩
      | cons o r ih =>
        intro h
        obtain ⟨n, rfl, hn⟩ := h o List.mem_cons_self
        obtain ⟨l, h1, h2, h3⟩ := ih fun o ho => h o (List.mem_cons_of_mem _ ho)
        refine ⟨n :: l, by simp [h1], by simp [h2], fun k hk => ?_⟩
        rcases List.mem_cons.mp hk with rfl | hk
        · exact hn
        · exact h3 k hk
    obtain ⟨l, h1, h2, h3⟩ := key ys fun o ho => by
      obtain ⟨j, hj⟩ := List.getElem?_of_mem ho
      exact hr6 j o hj
    rw [h2] at hD6
    rw [Int.toNat_natCast] at hl
    refine ⟨_, D5, _, rfl, rfl, .inl (SqL.of hD6), join_ok (by omega), ?_⟩
    rw [join_signs]
    exact hQ l H2 (e01.trans e2) t2 (by omega) h3
theorem ok_square (F : FD K "_law_square" "_law_square" sSquare f fd) (B : Bl mg) (FDr : FnR P w K mg base C0 1 fD spDraw) (GD : Gb K mg "_law_draw" fD) : FnR P w K mg base C0 2 f spSquare := by
  refine rawOf (okOf F scSquare (fun vs H Q E h => ?_) fun cdv A outer s H vs Q E hr h => ?_) (F.bindsN fun _ _ _ _ _ _ us hl => match us, hl with | [_, _], _ => rfl)
  · obtain ⟨_, _, rfl, _⟩ := h; rfl
  obtain ⟨D, L, rfl, tp, hQ⟩ := h
  refine ⟨_, pss_cons (ps_set (i := 2) scSquare.nd rfl (Or.inl rfl) (pe_op op_add pe_int (pe_g FDr GD hr rfl (pa_cons (pv 0) (pa_cons (pe_ix ix_list (pe_lst (pa_cons pe_int (pa_cons pe_int pa_nil))) (pe_callTy call_int1 rfl B.int bI (pa_cons (pe_cmpR op_gt (pv 1) pe_int (nomark _)) pa_nil)) (fun _ _ => rfl)) pa_nil)))))
    (pss_cons (ps_set (i := 3) scSquare.nd rfl (Or.inl rfl) (pe_lst (pa_cons (pe_tup (pa_cons (pv 2) (pa_cons pe_int (pa_cons (pv 2) pa_nil)))) (pa_cons (pe_tup (pa_cons (pe_op op_mul pe_int (pv 2)) (pa_cons (pv 2) (pa_cons (pv 2) pa_nil))))
      (pa_cons (pe_tup (pa_cons (pv 2) (pa_cons pe_int (pa_cons (pe_op op_add pe_int (pe_g FDr GD hr rfl (pa_cons (pv 0) (pa_cons (pe_op op_fdiv (pv 1) (pv 2)) pa_nil)))) pa_nil)))) pa_nil)))))
    (pss_one (ps_ret (pe_ix ix_list (pe_lc (own := [("_law_net_here", 4)]) (g := gName 4) rfl scSquare.nd (pi_list (pv 3)) (blkOk_by (N := ["_law_tape_here", "_law_most", "_law_side", "_law_some", "_law_net_here"]) (sc := defScope sSquare) (by decide +kernel))
      (fun _ _ _ _ _ => pg_name (i := 4) scSquare.nd rfl (Or.inl rfl)) (fun _ _ _ _ _ => pts_one (pt_cmpR op_le (pe_op op_mul (pe_ix (ixT (K := K) rfl) (pv 4) pe_int (fun _ _ => rfl)) (pe_ix (ixT (K := K) rfl) (pv 4) pe_int (fun _ _ => rfl))) (pv 1) (nomark _))) (fun _ _ _ _ _ => pv 4))
      (pe_g FDr GD hr rfl (pa_cons (pv 0) (pa_cons pe_int pa_nil))) (fun _ _ => rfl))))), ?_⟩
  refine ⟨_, rfl, by show 2 ≤ sizeLine; decide, fun p0 np0 => ?_⟩
  have hp0 : upd H p0 (.lst [.int 2, .int 4]) p0 = some (.lst [.int 2, .int 4]) := upd_same
  refine ⟨_, rfl, _, _, rfl, rfl, .inr ⟨_, rfl, p0, _, 0, .int 2, rfl, rfl, SqL.of hp0, atI_nat (j := 0) rfl, ?_⟩⟩
  refine ⟨D, L, _, rfl, tp.e (Ex.upd np0), by decide, by decide, fun r H1 x1 y1 e1 t1 => ⟨_, _, rfl, rfl, ?_⟩⟩
  have e01 : ExB D H H1 := (ExB.of (Ex.upd np0)).trans e1
  have three : 3 ≤ sizeLine := by decide
  refine ⟨_, rfl, _, rfl, three, fun q1 nq1 => ?_⟩
  refine ⟨_, rfl, _, _, rfl, rfl, .inl ⟨by decide, by decide⟩, _, rfl, _, rfl, three, fun q2 nq2 => ?_⟩
  have f1 := Ex.upd (o := .tup [.int (1 + r), .int 0, .int (1 + r)]) nq1
  have f2 := Ex.upd (o := .tup [.int (2 * (1 + r)), .int (1 + r), .int (1 + r)]) nq2
  have h8 : 1 ≤ (8 : Int) / (1 + r) := Int.le_ediv_of_mul_le (by omega) (by omega)
  refine ⟨_, rfl, _, rfl, _, rfl, _, rfl, _, _, rfl, rfl, ⟨by omega, by omega⟩, D, L, _, rfl, (t1.e f1).e f2, h8, by have := Int.ediv_le_self (1 + r) (show (0 : Int) ≤ 8 by omega); omega, fun r2 H2 x2 y2 e2 t2 => ⟨_, _, rfl, rfl, three, fun q3 nq3 => ⟨three, fun p np => ?_⟩⟩⟩
  have t1' := (t1.e f1).e f2
  have f3 := Ex.upd (o := .tup [.int (1 + r), .int 0, .int (1 + r2)]) nq3
  have f4 := Ex.upd (o := .lst [.ref q1, .ref q2, .ref q3]) np
  have hr01 : r = 0 ∨ r = 1 := by
    have h2 : (if (2 : Int) < 2 then (2 : Int) else 2) = 2 := rfl
    omega
  have k1 := f4 _ _ (f3 _ _ (ExB.tu t1' e2 (f2 _ _ (upd_same (H := H1) (a := q1)))))
  have k2 := f4 _ _ (f3 _ _ (ExB.tu t1' e2 (upd_same (a := q2))))
  have k3 := f4 _ _ (upd_same (H := H2) (a := q3))
  have hp := upd_same (H := upd H2 q3 (.tup [.int (1 + r), .int 0, .int (1 + r2)])) (a := p) (o := .lst [.ref q1, .ref q2, .ref q3])
  have t3 := (t2.e f3).e f4
  have e03 : ExB D H _ := ((e01.trans (.of (f1.trans f2))).trans e2).trans (.of (f3.trans f4))
  have c1 : Mn.Ok (1 + r) 0 (1 + r) ∧ (1 + r) * (1 + r) ≤ 8 := by
    rcases hr01 with rfl | rfl <;> exact ⟨⟨by decide, by decide, by decide⟩, by decide⟩
  have c2 : Mn.Ok (2 * (1 + r)) (1 + r) (1 + r) ∧ 2 * (1 + r) * (1 + r) ≤ 8 := by
    rcases hr01 with rfl | rfl <;> exact ⟨⟨by decide, by decide, by decide⟩, by decide⟩
  have c3 : Mn.Ok (1 + r) 0 (1 + r2) ∧ (1 + r) * (1 + r2) ≤ 8 := by
    refine ⟨⟨by omega, by omega, by omega⟩, ?_⟩
    have h3 : (1 + r) * (1 + r2) ≤ (1 + r) * (8 / (1 + r)) := Int.mul_le_mul_of_nonneg_left (by omega) (by omega)
    have h4 := Int.mul_ediv_self_le (x := 8) (k := 1 + r) (by omega)
    omega
  generalize upd (upd H2 q3 (.tup [.int (1 + r), .int 0, .int (1 + r2)])) p (.lst [.ref q1, .ref q2, .ref q3]) = H3 at *
  have hcell : ∀ (i : Nat) (v : V), [V.ref q1, V.ref q2, V.ref q3][i]? = some v → ∃ t a b c, v = .ref t ∧ NT H3 t a b c ∧ a * c ≤ 8 := fun i v hv => by
    match i, hv with
    | 0, hv =>
      obtain rfl : V.ref q1 = v := by simpa using hv
      exact ⟨q1, _, _, _, rfl, ⟨k1, c1.1, by omega⟩, c1.2⟩
    | 1, hv =>
      obtain rfl : V.ref q2 = v := by simpa using hv
      exact ⟨q2, _, _, _, rfl, ⟨k2, c2.1, by omega⟩, c2.2⟩
    | 2, hv =>
      obtain rfl : V.ref q3 = v := by simpa using hv
      exact ⟨q3, _, _, _, rfl, ⟨k3, c3.1, by omega⟩, c3.2⟩
  refine ⟨_, rfl, p, rfl, ⟨_, SqL.of hp⟩, fun D5 hD5 => ?_⟩
  have hm : MonR (fun (_ : Nat) (o : Option V) (H : Hp) => ∃ t a b c, o = some (.ref t) ∧ NT H t a b c ∧ a * c ≤ 8) := fun j o H H' e ⟨t, a, b, c, h1, h2, h3⟩ => ⟨t, a, b, c, h1, h2.i fun b xs q => e b _ q (fun _ z => by cases z), h3⟩
  refine lc_by (R := fun _ o H => ∃ t a b c, o = some (.ref t) ∧ NT H t a b c ∧ a * c ≤ 8) (walk_lst (SqL.of hp)) hD5 (fun i v H4 hi hv q => ?_) (fun H4 q => ?_)
  · obtain ⟨t, a, b, c, rfl, hn, h8⟩ := hcell i v hv
    have hn4 := hn.ex q.1
    obtain ⟨a1, a2, cc1, cc2, b1, b2, ac, ac1⟩ := hn.le
    refine ⟨rfl, _, rfl, t, _, _, _, rfl, rfl, SqT.of hn4.1, atI_nat (j := 0) rfl, _, rfl, t, _, _, _, rfl, rfl, SqT.of hn4.1, atI_nat (j := 2) rfl, _, _, rfl, rfl, .inr ⟨by omega, by omega⟩, _, rfl, _, _, rfl, rfl, _, rfl, ?_⟩
    rw [decide_eq_true h8]
    refine iteT ⟨_, rfl, q.yes hm hD5 (Ex.refl _) ⟨t, a, b, c, rfl, hn4, h8⟩ ?_⟩
    have : i < 3 := hi
    show i < 2 ^ 24
    omega
  · obtain ⟨e6, outs, hl, hDl, ho⟩ := q
    have hl3 : outs.length = 3 := hl
    have hlf : (outs.filterMap id).length = 3 := by
      match outs, hl3, ho with
      | [o1, o2, o3], _, ho =>
        obtain ⟨_, _, _, _, rfl, _⟩ := ho 0 o1 rfl
        obtain ⟨_, _, _, _, rfl, _⟩ := ho 1 o2 rfl
        obtain ⟨_, _, _, _, rfl, _⟩ := ho 2 o3 rfl
        rfl
    have t4 := t3.e e6
    refine ⟨_, rfl, D, L, _, rfl, t4, by decide, by decide, fun r3 H5 x3 y3 e5 t5 => ?_⟩
    have hD6 := e5 _ _ (fun z => by
      obtain ⟨xs, hx⟩ := t3.lst
      rw [z, hx] at hD5; cases hD5) hDl
    obtain ⟨v, hv⟩ : ∃ v, (outs.filterMap id)[r3.toNat]? = some v := ⟨_, List.getElem?_eq_getElem (by omega)⟩
    have hat := atI_nat hv
    rw [Int.toNat_of_nonneg x3] at hat
    obtain ⟨t, a, b, c, rfl, hn, h8⟩ : ∃ t a b c, v = .ref t ∧ NT H4 t a b c ∧ a * c ≤ 8 := by
      have hmem := List.mem_of_getElem? hv
      obtain ⟨o, ho1, ho2⟩ := List.mem_filterMap.mp hmem
      obtain ⟨j, hj⟩ := List.getElem?_of_mem ho1
      obtain ⟨t, a, b, c, rfl, h1, h2⟩ := ho j o hj
      cases ho2
      exact ⟨t, a, b, c, rfl, h1, h2⟩
    refine ⟨D5, _, _, _, rfl, rfl, SqL.of hD6, hat, ?_⟩
    exact hQ t a b c H5 ((e03.trans (.of e6)).trans e5) t5 (hn.i fun b xs q => ExB.tu t4 e5 q) h8
end
end Wk
end
section
set_option maxHeartbeats 4000000
/-! copied, woven. -/
namespace Wk
open PySem PySem.Spec PyProof.Rows L2 Cl TL LamX
abbrev nWoven : List Str := ["_law_tape_here", "_law_most", "_law_way", "_law_net_here", "_law_k", "_law_moves", "_law_slope", "_law_line", "_law_size", "_law_x", "_law_y"]
theorem scWoven : FnScope ["_law_tape_here", "_law_most", "_law_way", "_law_net_here", "_law_k", "_law_moves", "_law_slope", "_law_line", "_law_size", "_law_x", "_law_y"] ["_law_tape_here", "_law_most"] (defScope sWoven) := ⟨rfl, rfl, rfl, by decide +kernel, rfl, by decide +kernel, by decide +kernel⟩
def spWoven : Sp := fun vs H Q _ => ∃ (D L : Addr), vs = [.ref D, .int 8] ∧ Tape D L H ∧ ∀ z l a b c H', ExB D H H' → Tape D L H' → WV H' z l a b c → a * c ≤ 8 → (∀ k ∈ l, Ltr k) → Q (.ref z) H'
section
variable {P : Program} {w : World} {K : PySem.W.Frag} {mg : Str → Option Value} {base : Heap} {f fD fS fL fC fN fQ fM fT fV fP : Addr} {fd : FuncData}
theorem ok_copied (F : FD K "_law_copied" "_law_copied" sCopied f fd) (FDr : FnR P w K mg base C0 1 fD spDraw) (GD : Gb K mg "_law_draw" fD) (FSp : FnR P w K mg base C0 1 fS spSpotsL) (GS : Gb K mg "_law_spots" fS) (FSe : FnR P w K mg base C0 2 fL spSeenL) (GSe : Gb K mg "_law_seen" fL) : FnR P w K mg base C0 3 f spCopied := by
  refine rawOf (okOf F scCopied (fun vs H Q E h => ?_) fun cdv A outer s H vs Q E hr h => ?_) (F.bindsN fun _ _ _ _ _ _ us hl => match us, hl with | [_, _, _, _], _ => rfl)
  · obtain ⟨_, _, _, _, _, _, _, _, rfl, _⟩ := h; rfl
  obtain ⟨D, L, n, a, b, c, m, l, rfl, tp, hn, hm, hm2, hl, hQ⟩ := h
  obtain ⟨a1, a2, cc1, cc2, b1, b2, ac, ac1⟩ := hn.le
  have hrd : Room 1 (A.deeper (envOfC "_law_copied" (defScope sCopied) s.heap.objs.size f cdv)) := hr.mono (by decide)
  refine ⟨_, pss_cons (ps_par (i := 4) (j := 5) rfl scCopied.nd rfl rfl (by decide) rfl rfl (pa_cons (pe_op op_add pe_int (pe_g FDr GD hrd rfl (pa_cons (pv 0) (pa_cons pe_int pa_nil)))) (pa_cons (pe_op op_add pe_int (pe_g FDr GD hrd rfl (pa_cons (pv 0) (pa_cons pe_int pa_nil)))) pa_nil)) rfl)
    (pss_cons (ps_if (pt_cmpR op_gt (pe_op op_mul (pe_op op_mul (pe_op op_mul (pe_ix ix_tup (pv 1) pe_int (fun _ _ => rfl)) (pv 4)) (pe_ix ix_tup (pv 1) pe_int (fun _ _ => rfl))) (pv 5)) (pv 3) (nomark _)) (pss_one (ps_ret (pe_tup (pa_cons (pv 1) (pa_cons (pv 2) pa_nil))))) pss_nil)
    (pss_cons (ps_set (i := 6) scCopied.nd rfl (Or.inl rfl) (pe_tup (pa_cons (pe_op op_mul (pe_ix ix_tup (pv 1) pe_int (fun _ _ => rfl)) (pv 4)) (pa_cons (pe_op op_mod (pe_op op_mul (pe_ix ix_tup (pv 1) pe_int (fun _ _ => rfl)) (pv 5)) (pe_op op_mul (pe_ix ix_tup (pv 1) pe_int (fun _ _ => rfl)) (pv 4)))
      (pa_cons (pe_op op_mul (pe_ix ix_tup (pv 1) pe_int (fun _ _ => rfl)) (pv 5)) pa_nil)))))
    (pss_one (ps_ret (pe_tup (pa_cons (pv 6) (pa_cons (pe_join pe_str (pe_lc (own := [("_law_spot", 7)]) (g := gName 7) (tt := tYes) rfl scCopied.nd (pi_list (pe_g FSp GS hrd rfl (pa_cons (pv 6) pa_nil))) (blkOk_by (N := ["_law_tape_here", "_law_net_here", "_law_text", "_law_most", "_law_wide", "_law_high", "_law_larger", "_law_spot"]) (sc := defScope sCopied) (by decide +kernel))
      (fun _ _ _ _ _ => pg_name (i := 7) scCopied.nd rfl (Or.inl rfl)) (fun _ _ _ _ _ => pts_nil) (fun _ _ _ _ _ => pe_g FSe GSe hr rfl (pa_cons (pv 1) (pa_cons (pv 2) (pa_cons (pv 7) pa_nil)))))) pa_nil))))))), ?_⟩
  have n0 := atI_nat (xs := [V.int a, V.int b, V.int c]) (j := 0) rfl
  have n1 := atI_nat (xs := [V.int a, V.int b, V.int c]) (j := 1) rfl
  have n2 := atI_nat (xs := [V.int a, V.int b, V.int c]) (j := 2) rfl
  refine ⟨_, rfl, D, L, _, rfl, tp, by decide, by decide, fun r1 H1 x1 y1 e1 t1 => ⟨_, _, rfl, rfl, ?_⟩⟩
  refine ⟨_, rfl, D, L, _, rfl, t1, by decide, by decide, fun r2 H2 x2 y2 e2 t2 => ⟨_, _, rfl, rfl, _, _, rfl, ?_⟩⟩
  have e02 := e1.trans e2
  have hn2 : NT H2 n a b c := (hn.i fun _ _ q => ExB.tu tp e1 q).i fun _ _ q => ExB.tu t1 e2 q
  have nn := SqT.of (K := K) hn2.1
  refine ⟨_, rfl, n, _, _, _, rfl, rfl, nn, n0, _, rfl, _, _, rfl, rfl, .inr ⟨by omega, by omega⟩, ?_⟩
  refine ⟨_, rfl, n, _, _, _, rfl, rfl, nn, n2, _, _, rfl, rfl, .inr ⟨by omega, by omega⟩, ?_⟩
  refine ⟨_, rfl, _, _, rfl, rfl, .inr ⟨by omega, by omega⟩, _, rfl, _, _, rfl, rfl, _, rfl, ?_⟩
  refine ifD (fun hg => ?_) fun hg => ?_
  · refine ⟨_, rfl, _, rfl, by show 2 ≤ sizeLine; decide, fun p np => ?_⟩
    have ep := Ex.upd (o := .tup [.ref n, .str (mkS l)]) np
    exact hQ p l a b c _ (e02.trans (.of ep)) (t2.e ep) ⟨n, upd_same, hn2.ex ep, hl⟩ hm fun k h => h
  have hA : 0 < a * (1 + r1) := Int.mul_pos (by omega) (by omega)
  have hC : 0 < c * (1 + r2) := Int.mul_pos (by omega) (by omega)
  have hAC : a * (1 + r1) * (c * (1 + r2)) ≤ m := by
    rw [← Int.mul_assoc]; omega
  have hA2 : a * (1 + r1) ≤ a * (1 + r1) * (c * (1 + r2)) := le_mul_pos (by omega) (by omega)
  have hC2 : c * (1 + r2) ≤ a * (1 + r1) * (c * (1 + r2)) := by
    rw [Int.mul_comm (a * (1 + r1))]
    exact le_mul_pos (by omega) (by omega)
  refine ⟨_, rfl, n, _, _, _, rfl, rfl, nn, n0, _, rfl, _, _, rfl, rfl, .inr ⟨by omega, by omega⟩, ?_⟩
  refine ⟨_, rfl, n, _, _, _, rfl, rfl, nn, n1, _, rfl, _, _, rfl, rfl, .inr ⟨by omega, by omega⟩, ?_⟩
  refine ⟨_, rfl, n, _, _, _, rfl, rfl, nn, n0, _, rfl, _, _, rfl, rfl, .inr ⟨by omega, by omega⟩, _, _, rfl, rfl, hA, ?_⟩
  refine ⟨_, rfl, n, _, _, _, rfl, rfl, nn, n2, _, rfl, _, _, rfl, rfl, .inr ⟨by omega, by omega⟩, by show 3 ≤ sizeLine; decide, fun q nq => ?_⟩
  have eq := Ex.upd (o := .tup [.int (a * (1 + r1)), .int (b * (1 + r2) % (a * (1 + r1))), .int (c * (1 + r2))]) nq
  have hq : NT (upd H2 q (.tup [.int (a * (1 + r1)), .int (b * (1 + r2) % (a * (1 + r1))), .int (c * (1 + r2))])) q (a * (1 + r1)) (b * (1 + r2) % (a * (1 + r1))) (c * (1 + r2)) :=
    ⟨upd_same, ⟨Int.emod_nonneg _ (by omega), Int.emod_lt_of_pos _ hA, by omega⟩, by omega⟩
  refine ⟨_, rfl, ⟨_, rfl⟩, _, rfl, q, _, _, _, rfl, hq, fun S ts H3 e3 hS hsp => ?_⟩
  refine ⟨S, rfl, ⟨_, SqL.of hS⟩, fun D5 hD5 => ?_⟩
  have hlen : (ts.map V.ref).length = (a * (1 + r1) * (c * (1 + r2))).toNat := by rw [List.length_map, hsp.1]
  refine lc_by (R := fun j o H => ∃ k, o = some (.str (mkS [k])) ∧ k ∈ l) (walk_lst (SqL.of hS)) hD5 (fun j v H4 hj hv p => ?_) (fun H4 p => ?_)
  · obtain ⟨t, ht, rfl⟩ : ∃ t, ts[j]? = some t ∧ v = .ref t := by
      rw [List.getElem?_map] at hv
      obtain ⟨t, h1, h2⟩ := Option.map_eq_some_iff.mp hv
      exact ⟨t, h1, h2.symm⟩
    rw [hlen] at hj
    refine ⟨rfl, _, rfl, _, rfl, _, rfl, n, t, a, b, c, _, _, l, rfl, (hn2.ex eq).ex (e3.trans p.1), p.1 _ _ (hsp.2 j t ht), hl, fun k H5 e5 hk => ?_⟩
    exact p.yes (fun j o H H' _ r => r) hD5 e5 ⟨k, rfl, hk⟩ (by show j < 2 ^ 24; omega)
  · rw [hlen] at p
    obtain ⟨e4, outs, hol, hD3, ho⟩ := p
    obtain ⟨l', hl1, hl2, hl3⟩ := outs_lets (l := l) (outs := outs) fun o hoo => by
      obtain ⟨j, hj⟩ := List.getElem?_of_mem hoo
      exact ho j o hj
    rw [hl2] at hD3
    refine ⟨_, D5, _, rfl, rfl, .inl (SqL.of hD3), join_ok (by omega), ?_⟩
    rw [join_signs]
    refine ⟨by show 2 ≤ sizeLine; decide, fun p np => ?_⟩
    have ep := Ex.upd (o := .tup [.ref q, .str (mkS l')]) np
    have e34 := e3.trans (e4.trans ep)
    exact hQ p l' _ _ _ _ (e02.trans (.of (eq.trans e34))) (t2.e (eq.trans e34)) ⟨q, upd_same, hq.ex e34, by omega⟩ hAC hl3
end
end Wk
end
section
set_option maxHeartbeats 4000000
/-! woven. -/
namespace Wk
open PySem PySem.Spec PyProof.Rows L2 Cl TL LamX
theorem size_ok {a b c s0 s1 z g : Int} (hs : (s0 = 1 ∧ s1 = 0) ∨ (s0 = 0 ∧ s1 = 1) ∨ (s0 = 1 ∧ s1 = 1) ∨ (s0 = 1 ∧ s1 = -1)) (a1 : 1 ≤ a) (c1 : 1 ≤ c) (hz : z = 1 ∨ z = 2 ∨ z = g) (g1 : 1 ≤ g) (g2 : g ≤ a) (h1 : a * s0 % z = 0) (h2 : (b * s0 + c * s1) % z = 0) : 1 ≤ z ∧ z ≤ a * c := by
  have e1 := le_mul_pos (a := a) (x := c) (by omega) c1
  have e2 := le_mul_pos (a := c) (x := a) (by omega) a1
  rw [Int.mul_comm] at e2
  rcases hz with rfl | rfl | rfl
  · omega
  · rcases hs with ⟨rfl, rfl⟩ | ⟨rfl, rfl⟩ | ⟨rfl, rfl⟩ | ⟨rfl, rfl⟩ <;> omega
  · omega
theorem refs_of {R : Addr → Prop} : ∀ ys : List V, (∀ o ∈ ys, ∃ m, o = .ref m ∧ R m) → ∃ ms : List Addr, ms.length = ys.length ∧ ys = ms.map V.ref ∧ ∀ m ∈ ms, R m
  | [], _ => ⟨[], rfl, rfl, fun n h => by cases h⟩
  | o :: r, h => by
    obtain ⟨n, rfl, hn⟩ := h o List.mem_cons_self
    obtain ⟨l, h1, h2, h3⟩ := refs_of r fun o ho => h o (List.mem_cons_of_mem _ ho)
    refine ⟨n :: l, by simp [h1], by simp [h2], fun k hk => ?_⟩
    rcases List.mem_cons.mp hk with rfl | hk
    · exact hn
    · exact h3 k hk
theorem pick {l : List Nat} {N e z : Int} (h1 : 1 ≤ z) (h2 : z ≤ N) (hl : l.length = N.toNat) : ∃ n, atI l (e % z) = some n ∧ n ∈ l := by
  have q1 := Int.emod_nonneg e (show z ≠ 0 by omega)
  have q2 := Int.emod_lt_of_pos e (show 0 < z by omega)
  obtain ⟨n, hn⟩ : ∃ n, l[(e % z).toNat]? = some n := ⟨_, List.getElem?_eq_getElem (by omega)⟩
  have hat := atI_nat hn
  rw [Int.toNat_of_nonneg q1] at hat
  exact ⟨n, hat, List.mem_of_getElem? hn⟩
theorem mv_mon : MonT (fun (_ : Nat) (o : V) (H : Hp) => ∃ m, o = .ref m ∧ MvT H m) := fun _ _ _ _ e ⟨m, h1, h2⟩ => ⟨m, h1, h2.i e⟩
section
variable {P : Program} {w : World} {K : PySem.W.Frag} {mg : Str → Option Value} {base : Heap} {f fD fS fL fC fN fQ fM fT fV fP : Addr} {fd : FuncData}
theorem ok_woven (F : FD K "_law_woven" "_law_woven" sWoven f fd) (B : Bl mg) (FDr : FnR P w K mg base C0 1 fD spDraw) (GD : Gb K mg "_law_draw" fD) (FN : FnR P w K mg base C0 2 fN spNetL) (GN : Gb K mg "_law_net" fN)
    (FL : FnR P w K mg base C0 2 fL spLetters) (GL : Gb K mg "_law_letters" fL) (FQ : FnR P w K mg base C0 2 fQ spSquare) (GQ : Gb K mg "_law_square" fQ) (FM : FnR P w K mg base C0 3 fM spMoveL) (GM : Gb K mg "_law_move" fM)
    (FT : FnR P w K mg base C0 3 fT spTied) (GT : Gb K mg "_law_tied" fT) (FV : FnR P w K mg base C0 1 fV spDivisor) (GV : Gb K mg "_law_divisor" fV) (FSp : FnR P w K mg base C0 1 fS spSpotsL) (GS : Gb K mg "_law_spots" fS)
    (FC : FnR P w K mg base C0 3 fC spCopied) (GC : Gb K mg "_law_copied" fC) : FnR P w K mg base C0 4 f spWoven := by
  refine rawOf (okOf F scWoven (fun vs H Q E h => ?_) fun cdv A outer s H vs Q E hr h => ?_) (F.bindsN fun _ _ _ _ _ _ us hl => match us, hl with | [_, _], _ => rfl)
  · obtain ⟨_, _, rfl, _⟩ := h; rfl
  obtain ⟨D, L, rfl, tp, hQ⟩ := h
  have hr1 : Room 1 (A.deeper (envOfC "_law_woven" (defScope sWoven) s.heap.objs.size f cdv)) := hr.mono (by decide)
  have hr2 : Room 2 (A.deeper (envOfC "_law_woven" (defScope sWoven) s.heap.objs.size f cdv)) := hr.mono (by decide)
  have two : 2 ≤ sizeLine := by decide
  refine ⟨_, pss_cons (ps_set (i := 2) scWoven.nd rfl (Or.inl rfl) (pe_g FDr GD hr1 rfl (pa_cons (pv 0) (pa_cons pe_int pa_nil))))
    (pss_cons (ps_if (pt_cmpR op_eq (pv 2) pe_int (nomark _))
      (pss_cons (ps_set (i := 3) scWoven.nd rfl (Or.inr rfl) (pe_g FN GN hr2 rfl (pa_cons (pv 0) (pa_cons (pv 1) pa_nil))))
      (pss_one (ps_ret (pe_tup (pa_cons (pv 3) (pa_cons (pe_g FL GL hr2 rfl (pa_cons (pv 0) (pa_cons (pe_op op_mul (pe_ix ix_tup (pv 3) pe_int (fun _ _ => rfl)) (pe_ix ix_tup (pv 3) pe_int (fun _ _ => rfl))) pa_nil))) pa_nil)))))) pss_nil)
    (pss_cons (ps_if (pt_cmpR op_lt (pv 2) pe_int (nomark _))
      (pss_cons (ps_set (i := 3) scWoven.nd rfl (Or.inr rfl) (pe_g FQ GQ hr2 rfl (pa_cons (pv 0) (pa_cons (pv 1) pa_nil))))
      (pss_cons (ps_setLc (i := 5) (own := [("_law_k", 4)]) (g := gName 4) (tt := tYes) rfl scWoven.nd rfl rfl (sw_true rfl rfl rfl (by decide +kernel)) (pi_range1 rfl B.range (pa_cons (pe_op op_add pe_int (pe_g FDr GD hr1 rfl (pa_cons (pv 0) (pa_cons pe_int pa_nil)))) pa_nil)) (blkOk_by (N := nWoven) (sc := defScope sWoven) (by decide +kernel))
        (fun _ _ _ _ _ => pg_name (i := 4) scWoven.nd rfl (Or.inl rfl)) (fun _ _ _ _ _ => pts_nil) (fun _ _ _ _ _ => pe_g FM GM hr rfl (pa_cons (pv 0) (pa_cons (pv 3) pa_nil))))
      (pss_one (ps_ret (pe_tup (pa_cons (pv 3) (pa_cons (pe_g FT GT hr rfl (pa_cons (pv 3) (pa_cons (pe_g FL GL hr2 rfl (pa_cons (pv 0) (pa_cons (pe_op op_mul (pe_ix ix_tup (pv 3) pe_int (fun _ _ => rfl)) (pe_ix ix_tup (pv 3) pe_int (fun _ _ => rfl))) pa_nil))) (pa_cons (pv 5) pa_nil)))) pa_nil))))))) pss_nil)
    (pss_cons (ps_if (pt_cmpR op_eq (pv 2) pe_int (nomark _))
      (pss_cons (ps_set (i := 3) scWoven.nd rfl (Or.inr rfl) (pe_g FN GN hr2 rfl (pa_cons (pv 0) (pa_cons (pv 1) pa_nil))))
      (pss_cons (ps_set (i := 6) scWoven.nd rfl (Or.inr rfl) (pe_ix ix_list (pe_lst (pa_cons (pe_tup (pa_cons pe_int (pa_cons pe_int pa_nil))) (pa_cons (pe_tup (pa_cons pe_int (pa_cons pe_int pa_nil))) (pa_cons (pe_tup (pa_cons pe_int (pa_cons pe_int pa_nil))) (pa_cons (pe_tup (pa_cons pe_int (pa_cons (pe_un un_neg pe_int) pa_nil))) pa_nil)))))
        (pe_g FDr GD hr1 rfl (pa_cons (pv 0) (pa_cons pe_int pa_nil))) (fun _ _ => rfl)))
      (pss_cons (ps_set (i := 7) scWoven.nd rfl (Or.inr rfl) (pe_g FL GL hr2 rfl (pa_cons (pv 0) (pa_cons (pe_op op_mul (pe_ix ix_tup (pv 3) pe_int (fun _ _ => rfl)) (pe_ix ix_tup (pv 3) pe_int (fun _ _ => rfl))) pa_nil))))
      (pss_cons (ps_set (i := 8) scWoven.nd rfl (Or.inr rfl) (pe_ix ix_list (pe_lst (pa_cons pe_int (pa_cons pe_int (pa_cons (pe_g FV GV hr1 rfl (pa_cons (pe_ix ix_tup (pv 3) pe_int (fun _ _ => rfl)) (pa_cons (pe_op op_add (pe_op op_mul (pe_ix ix_tup (pv 3) pe_int (fun _ _ => rfl)) (pe_ix ix_tup (pv 6) pe_int (fun _ _ => rfl))) (pe_op op_mul (pe_ix ix_tup (pv 3) pe_int (fun _ _ => rfl)) (pe_ix ix_tup (pv 6) pe_int (fun _ _ => rfl)))) pa_nil))) pa_nil))))
        (pe_g FDr GD hr1 rfl (pa_cons (pv 0) (pa_cons pe_int pa_nil))) (fun _ _ => rfl)))
      (pss_cons (ps_set (i := 8) scWoven.nd rfl (Or.inr rfl) (pe_ifExp (PW.pt (pw_and (pt_cmpR op_eq (pe_op op_mod (pe_op op_mul (pe_ix ix_tup (pv 3) pe_int (fun _ _ => rfl)) (pe_ix ix_tup (pv 6) pe_int (fun _ _ => rfl))) (pv 8)) pe_int (nomark _))
          (pw_and1 (pt_cmpR op_eq (pe_op op_mod (pe_op op_add (pe_op op_mul (pe_ix ix_tup (pv 3) pe_int (fun _ _ => rfl)) (pe_ix ix_tup (pv 6) pe_int (fun _ _ => rfl))) (pe_op op_mul (pe_ix ix_tup (pv 3) pe_int (fun _ _ => rfl)) (pe_ix ix_tup (pv 6) pe_int (fun _ _ => rfl)))) (pv 8)) pe_int (nomark _))))) (pv 8) pe_int))
      (pss_one (ps_ret (pe_tup (pa_cons (pv 3) (pa_cons (pe_join pe_str (pe_lc (own := [("_law_x", 9), ("_law_y", 10)]) (g := gTup K 2 (gCons (gName 9) (gCons (gName 10) gNil))) (tt := tYes) rfl scWoven.nd (pi_list (pe_g FSp GS hr1 rfl (pa_cons (pv 3) pa_nil))) (blkOk_by (N := nWoven) (sc := defScope sWoven) (by decide +kernel))
        (fun _ _ _ _ _ => pg_tup rfl (pgs_cons (pg_name (i := 9) scWoven.nd rfl (Or.inl rfl)) (pgs_cons (pg_name (i := 10) scWoven.nd rfl (Or.inl rfl)) pgs_nil))) (fun _ _ _ _ _ => pts_nil)
        (fun _ _ _ _ _ => pe_ix ix_str (pv 7) (pe_op op_mod (pe_op op_add (pe_op op_mul (pv 9) (pe_ix (ixT (K := K) rfl) (pv 6) pe_int (fun _ _ => rfl))) (pe_op op_mul (pv 10) (pe_ix (ixT (K := K) rfl) (pv 6) pe_int (fun _ _ => rfl)))) (pv 8)) (fun _ _ => rfl)))) pa_nil)))))))))) pss_nil)
    (pss_cons (ps_set (i := 3) scWoven.nd rfl (Or.inr rfl) (pe_g FN GN hr2 rfl (pa_cons (pv 0) (pa_cons (pe_op op_fdiv (pv 1) pe_int) pa_nil))))
    (pss_one (ps_ret (pe_g FC GC hr rfl (pa_cons (pv 0) (pa_cons (pv 3) (pa_cons (pe_g FL GL hr2 rfl (pa_cons (pv 0) (pa_cons (pe_op op_mul (pe_ix ix_tup (pv 3) pe_int (fun _ _ => rfl)) (pe_ix ix_tup (pv 3) pe_int (fun _ _ => rfl))) pa_nil))) (pa_cons (pv 1) pa_nil))))))))))), ?_⟩
  have mul : ∀ {H : Hp} {t : Addr} {a b c : Int}, NT H t a b c → [V.ref D, V.int (a * c)] = [V.ref D, V.int ((a * c).toNat : Int)] := fun h => by
    obtain ⟨_, _, _, _, _, _, _, h1⟩ := h.le
    rw [Int.toNat_of_nonneg (by omega)]
  refine ⟨_, rfl, D, L, _, rfl, tp, by decide, by decide, fun r H1 x1 y1 e1 t1 => ?_⟩
  refine ⟨_, rfl, rfl, _, rfl, ?_⟩
  refine ifD (fun _ => ?_) fun _ => ?_
  · refine ⟨_, rfl, _, rfl, D, L, 8, rfl, t1, by decide, by decide, fun t a b c H2 e2 t2 hn h8 => ?_⟩
    have n0 := atI_nat (xs := [V.int a, V.int b, V.int c]) (j := 0) rfl
    have n2 := atI_nat (xs := [V.int a, V.int b, V.int c]) (j := 2) rfl
    obtain ⟨a1, a2, cc1, cc2, b1, b2, ac, ac1⟩ := hn.le
    refine ⟨_, rfl, _, rfl, _, rfl, t, _, _, _, rfl, rfl, SqT.of hn.1, n0, _, rfl, t, _, _, _, rfl, rfl, SqT.of hn.1, n2, _, _, rfl, rfl, .inr ⟨by omega, by omega⟩, ?_⟩
    refine ⟨D, L, (a * c).toNat, mul hn, t2, by omega, fun l H3 e3 t3 hl hlt => ⟨two, fun p np => ?_⟩⟩
    have ep := Ex.upd (o := .tup [.ref t, .str (mkS l)]) np
    exact hQ p l a b c _ (((e1.trans e2).trans e3).trans (.of ep)) (t3.e ep) ⟨t, upd_same, (hn.i fun _ _ q => ExB.tu t2 e3 q).ex ep, hl⟩ h8 hlt
  refine ⟨_, rfl, _, _, rfl, rfl, _, rfl, ?_⟩
  refine ifD (fun _ => ?_) fun _ => ?_
  · refine ⟨_, rfl, _, rfl, D, L, rfl, t1, fun t a b c H2 e2 t2 hn h8 => ?_⟩
    have n0 := atI_nat (xs := [V.int a, V.int b, V.int c]) (j := 0) rfl
    have n2 := atI_nat (xs := [V.int a, V.int b, V.int c]) (j := 2) rfl
    obtain ⟨a1, a2, cc1, cc2, b1, b2, ac, ac1⟩ := hn.le
    refine ⟨_, rfl, D, L, _, rfl, t2, by decide, by decide, fun r2 H3 x2 y2 e3 t3 => ⟨_, _, rfl, rfl, 1 + r2, rfl, by omega, by omega, fun D5 hD5 => ?_⟩⟩
    have hn3 : NT H3 t a b c := hn.i fun _ _ q => ExB.tu t2 e3 q
    refine lcB (R := fun _ o H => ∃ m, o = .ref m ∧ MvT H m) t3 hD5 (fun i H4 hi p => ?_) (fun H4 p => ?_)
    · refine ⟨rfl, _, rfl, _, rfl, D, L, t, a, b, c, rfl, p.2.1, hn3.i fun _ _ q => ExB.tu t3 p.1 q, fun z H5 e5 t5 hz => ?_⟩
      exact p.yes t3 mv_mon hD5 e5 t5 ⟨z, rfl, hz⟩ (by show i < 2 ^ 24; omega)
    · obtain ⟨e4, t4, ys, hyl, hD4, hry⟩ := p
      obtain ⟨ms, hm1, rfl, hm3⟩ := refs_of (R := MvT H4) ys fun o ho => by
        obtain ⟨j, hj⟩ := List.getElem?_of_mem ho
        exact hry j o hj
      have hn4 : NT H4 t a b c := hn3.i fun _ _ q => ExB.tu t3 e4 q
      refine ⟨_, rfl, _, rfl, _, rfl, _, rfl, t, _, _, _, rfl, rfl, SqT.of hn4.1, n0, _, rfl, t, _, _, _, rfl, rfl, SqT.of hn4.1, n2, _, _, rfl, rfl, .inr ⟨by omega, by omega⟩, ?_⟩
      refine ⟨D, L, (a * c).toNat, mul hn, t4, by omega, fun l H5 e5 t5 hl hlt => ?_⟩
      have hn5 : NT H5 t a b c := hn4.i fun _ _ q => ExB.tu t4 e5 q
      refine ⟨_, rfl, t, D5, a, b, c, l, ms, rfl, hn5, hl, e5 _ _ (t3.fresh hD5).1 hD4, by omega, fun m hm => (hm3 m hm).i fun _ _ q => ExB.tu t4 e5 q, fun l' H6 e6 hl' hk => ⟨two, fun p np => ?_⟩⟩
      have ep := Ex.upd (o := .tup [.ref t, .str (mkS l')]) np
      have e67 := e6.trans ep
      exact hQ p l' a b c _ (((((e1.trans e2).trans e3).trans e4).trans e5).trans (.of e67)) (t5.e e67) ⟨t, upd_same, hn5.ex e67, hl'⟩ h8 fun k h => hlt k (hk k h)
  refine ⟨_, rfl, rfl, _, rfl, ?_⟩
  refine ifD (fun _ => ?_) fun _ => ?_
  · refine ⟨_, rfl, _, rfl, D, L, 8, rfl, t1, by decide, by decide, fun t a b c H2 e2 t2 hn h8 => ?_⟩
    have n0 := atI_nat (xs := [V.int a, V.int b, V.int c]) (j := 0) rfl
    have n1 := atI_nat (xs := [V.int a, V.int b, V.int c]) (j := 1) rfl
    have n2 := atI_nat (xs := [V.int a, V.int b, V.int c]) (j := 2) rfl
    obtain ⟨a1, a2, cc1, cc2, b1, b2, ac, ac1⟩ := hn.le
    refine ⟨two, fun p1 np1 => ⟨two, fun p2 np2 => ⟨two, fun p3 np3 => ⟨_, rfl, two, fun p4 np4 => ⟨by show 4 ≤ sizeLine; decide, fun p5 np5 => ?_⟩⟩⟩⟩⟩
    have f1 := Ex.upd (o := .tup [.int 1, .int 0]) np1
    have f2 := Ex.upd (o := .tup [.int 0, .int 1]) np2
    have f3 := Ex.upd (o := .tup [.int 1, .int 1]) np3
    have f4 := Ex.upd (o := .tup [.int 1, .int (-1)]) np4
    have f5 := Ex.upd (o := .lst [.ref p1, .ref p2, .ref p3, .ref p4]) np5
    have k1 := f5 _ _ (f4 _ _ (f3 _ _ (f2 _ _ (upd_same (H := H2) (a := p1) (o := .tup [.int 1, .int 0])))))
    have k2 := f5 _ _ (f4 _ _ (f3 _ _ (upd_same (a := p2) (o := .tup [.int 0, .int 1]))))
    have k3 := f5 _ _ (f4 _ _ (upd_same (a := p3) (o := .tup [.int 1, .int 1])))
    have k4 := f5 _ _ (upd_same (a := p4) (o := .tup [.int 1, .int (-1)]))
    have f := (((f1.trans f2).trans f3).trans f4).trans f5
    have t2' := t2.e f
    refine ⟨_, rfl, D, L, _, rfl, t2', by decide, by decide, fun r2 H3 x2 y2 e3 t3 => ?_⟩
    have hp5 := e3 _ _ (((((t2.e f1).e f2).e f3).e f4).fresh np5).1 upd_same
    have q1 := ExB.tu t2' e3 k1
    have q2 := ExB.tu t2' e3 k2
    have q3 := ExB.tu t2' e3 k3
    have q4 := ExB.tu t2' e3 k4
    obtain ⟨v, hv, hat⟩ := atI4 (x := V.ref p1) (y := V.ref p2) (z := V.ref p3) (u := V.ref p4) x2 y2
    obtain ⟨S, s0, s1, rfl, hS, hs⟩ : ∃ S s0 s1, v = .ref S ∧ H3 S = some (.tup [.int s0, .int s1]) ∧ ((s0 = 1 ∧ s1 = 0) ∨ (s0 = 0 ∧ s1 = 1) ∨ (s0 = 1 ∧ s1 = 1) ∨ (s0 = 1 ∧ s1 = -1)) := by
      rcases hv with rfl | rfl | rfl | rfl
      · exact ⟨p1, _, _, rfl, q1, .inl ⟨rfl, rfl⟩⟩
      · exact ⟨p2, _, _, rfl, q2, .inr (.inl ⟨rfl, rfl⟩)⟩
      · exact ⟨p3, _, _, rfl, q3, .inr (.inr (.inl ⟨rfl, rfl⟩))⟩
      · exact ⟨p4, _, _, rfl, q4, .inr (.inr (.inr ⟨rfl, rfl⟩))⟩
    refine ⟨p5, _, _, _, rfl, rfl, SqL.of hp5, hat, ?_⟩
    have hn3 : NT H3 t a b c := (hn.ex f).i fun _ _ q => ExB.tu t2' e3 q
    have e03 : ExB D H H3 := ((e1.trans e2).trans (.of f)).trans e3
    clear hp5 q1 q2 q3 q4 k1 k2 k3 k4 hat hv
    refine ⟨_, rfl, _, rfl, t, _, _, _, rfl, rfl, SqT.of hn3.1, n0, _, rfl, t, _, _, _, rfl, rfl, SqT.of hn3.1, n2, _, _, rfl, rfl, .inr ⟨by omega, by omega⟩, ?_⟩
    refine ⟨D, L, (a * c).toNat, mul hn, t3, by omega, fun l H4 e4 t4 hl hlt => ?_⟩
    have hn4 : NT H4 t a b c := hn3.i fun _ _ q => ExB.tu t3 e4 q
    have hS4 : H4 S = some (.tup [.int s0, .int s1]) := ExB.tu t3 e4 hS
    have s0at := atI_nat (xs := [V.int s0, V.int s1]) (j := 0) rfl
    have s1at := atI_nat (xs := [V.int s0, V.int s1]) (j := 1) rfl
    have cs0 : -(2 ^ 64) < s0 ∧ s0 < 2 ^ 64 := by omega
    have cs1 : -(2 ^ 64) < s1 ∧ s1 < 2 ^ 64 := by omega
    have nn := SqT.of (K := K) hn4.1
    have ss := SqT.of (K := K) hS4
    refine ⟨_, rfl, t, _, _, _, rfl, rfl, nn, n0, _, rfl, t, _, _, _, rfl, rfl, nn, n1, _, rfl, S, _, _, _, rfl, rfl, ss, s0at, _, _, rfl, rfl, .inr cs0, _, rfl, t, _, _, _, rfl, rfl, nn, n2, _, rfl, S, _, _, _, rfl, rfl, ss, s1at, _, _, rfl, rfl, .inr cs1, _, _, rfl, rfl, ?_⟩
    refine ⟨a, _, rfl, a1, fun g g1 g2 => ⟨by show 3 ≤ sizeLine; decide, fun p6 np6 => ?_⟩⟩
    have f6 := Ex.upd (o := .lst [.int 1, .int 2, .int g]) np6
    refine ⟨_, rfl, D, L, _, rfl, t4.e f6, by decide, by decide, fun r3 H5 x3 y3 e5 t5 => ?_⟩
    have hp6 := e5 _ _ (t4.fresh np6).1 upd_same
    have hn5 : NT H5 t a b c := (hn4.ex f6).i fun _ _ q => ExB.tu (t4.e f6) e5 q
    have hS5 : H5 S = some (.tup [.int s0, .int s1]) := ExB.tu (t4.e f6) e5 (f6 _ _ hS4)
    have e05 : ExB D H H5 := ((e03.trans e4).trans (.of f6)).trans e5
    obtain ⟨v, hv, hat⟩ := atI3 (x := V.int 1) (y := V.int 2) (z := V.int g) x3 y3
    obtain ⟨z, rfl, hz⟩ : ∃ z : Int, v = .int z ∧ (z = 1 ∨ z = 2 ∨ z = g) := by
      rcases hv with rfl | rfl | rfl
      · exact ⟨_, rfl, .inl rfl⟩
      · exact ⟨_, rfl, .inr (.inl rfl)⟩
      · exact ⟨_, rfl, .inr (.inr rfl)⟩
    refine ⟨p6, _, _, _, rfl, rfl, SqL.of hp6, hat, ?_⟩
    have nn := SqT.of (K := K) hn5.1
    have ss := SqT.of (K := K) hS5
    have z0 : 0 < z := by omega
    refine ⟨_, rfl, t, _, _, _, rfl, rfl, nn, n0, _, rfl, S, _, _, _, rfl, rfl, ss, s0at, _, _, rfl, rfl, .inr cs0, _, rfl, _, _, rfl, rfl, z0, rfl, _, rfl, ?_⟩
    refine ifD (fun h1 => ⟨_, rfl, t, _, _, _, rfl, rfl, nn, n1, _, rfl, S, _, _, _, rfl, rfl, ss, s0at, _, _, rfl, rfl, .inr cs0, _, rfl, t, _, _, _, rfl, rfl, nn, n2, _, rfl, S, _, _, _, rfl, rfl, ss, s1at, _, _, rfl, rfl, .inr cs1, _, _, rfl, rfl, _, rfl, _, _, rfl, rfl, z0, rfl, _, rfl, ifD (fun h2 => ⟨_, rfl, ?g1⟩) fun h2 => ?g2⟩) fun h1 => ?g3
    case' g1 =>
      have hzz := size_ok (b := b) hs a1 cc1 hz g1 g2 (by injection h1) (by injection h2)
    case' g2 =>
      have hzz : 1 ≤ (1 : Int) ∧ (1 : Int) ≤ a * c := ⟨by decide, ac1⟩
    case' g3 =>
      refine iteF ?_
      have hzz : 1 ≤ (1 : Int) ∧ (1 : Int) ≤ a * c := ⟨by decide, ac1⟩
    all_goals
      obtain ⟨hz1, hz2⟩ := hzz
      refine ⟨_, rfl, ⟨_, rfl⟩, _, rfl, t, a, b, c, rfl, hn5, fun Sp ts H6 e6 hSp hsp => ?_⟩
      refine ⟨Sp, rfl, ⟨_, SqL.of hSp⟩, fun D5 hD5 => ?_⟩
      have hlen : (ts.map V.ref).length = (a * c).toNat := by rw [List.length_map, hsp.1]
      refine lc_by (R := fun j o H => ∃ k, o = some (.str (mkS [k])) ∧ k ∈ l) (walk_lst (SqL.of hSp)) hD5 (fun j v H7 hj hv p => ?_) (fun H7 p => ?_)
      · obtain ⟨t', ht, rfl⟩ : ∃ t, ts[j]? = some t ∧ v = .ref t := by
          rw [List.getElem?_map] at hv
          obtain ⟨t, h1, h2⟩ := Option.map_eq_some_iff.mp hv
          exact ⟨t, h1, h2.symm⟩
        rw [hlen] at hj
        have ss7 := SqT.of (K := K) (p.1 _ _ (e6 _ _ hS5))
        refine ⟨t', _, rfl, SqT.of (p.1 _ _ (hsp.2 j t' ht)), rfl, _, _, rfl, _, _, rfl, rfl, rfl, ?_⟩
        obtain ⟨n, hat, hmem⟩ := pick (e := ((j : Int) % a) * s0 + ((j : Int) / a) * s1) hz1 hz2 hl
        refine ⟨_, rfl, _, rfl, _, rfl, S, _, _, _, rfl, rfl, ss7, s0at, _, _, rfl, rfl, .inr cs0, _, rfl, _, rfl, S, _, _, _, rfl, rfl, ss7, s1at, _, _, rfl, rfl, .inr cs1, _, _, rfl, rfl, _, rfl, _, _, rfl, rfl, by omega, ?_⟩
        refine ⟨_, _, n, rfl, rfl, by rw [mkS_len, hl]; show _ ≤ 2 ^ 24; omega, by rw [mkS_list]; exact hat, ?_⟩
        exact p.yes (fun j o H H' _ r => r) hD5 (Ex.refl _) ⟨n, rfl, hmem⟩ (by show j < 2 ^ 24; omega)
      · rw [hlen] at p
        obtain ⟨e7, outs, hol, hD3, ho⟩ := p
        obtain ⟨l', hl1, hl2, hl3⟩ := outs_lets (l := l) (outs := outs) fun o hoo => by
          obtain ⟨j, hj⟩ := List.getElem?_of_mem hoo
          exact ho j o hj
        rw [hl2] at hD3
        refine ⟨_, D5, _, rfl, rfl, .inl (SqL.of hD3), join_ok (by omega), ?_⟩
        rw [join_signs]
        refine ⟨two, fun p np => ?_⟩
        have ep := Ex.upd (o := .tup [.ref t, .str (mkS l')]) np
        have e67 := e6.trans (e7.trans ep)
        exact hQ p l' a b c _ (e05.trans (.of e67)) (t5.e e67) ⟨t, upd_same, hn5.ex e67, by omega⟩ h8 fun k h => hlt k (hl3 k h)
  refine ⟨_, rfl, _, rfl, _, _, rfl, rfl, ⟨by decide, by decide⟩, D, L, _, rfl, t1, by decide, by decide, fun t a b c H2 e2 t2 hn h4 => ?_⟩
  have h4 : a * c ≤ 4 := h4
  have n0 := atI_nat (xs := [V.int a, V.int b, V.int c]) (j := 0) rfl
  have n2 := atI_nat (xs := [V.int a, V.int b, V.int c]) (j := 2) rfl
  obtain ⟨a1, a2, cc1, cc2, b1, b2, ac, ac1⟩ := hn.le
  refine ⟨_, rfl, _, rfl, _, rfl, _, rfl, t, _, _, _, rfl, rfl, SqT.of hn.1, n0, _, rfl, t, _, _, _, rfl, rfl, SqT.of hn.1, n2, _, _, rfl, rfl, .inr ⟨by omega, by omega⟩, ?_⟩
  refine ⟨D, L, (a * c).toNat, mul hn, t2, by omega, fun l H3 e3 t3 hl hlt => ?_⟩
  have hn3 : NT H3 t a b c := hn.i fun _ _ q => ExB.tu t2 e3 q
  exact ⟨_, rfl, D, L, t, a, b, c, 8, l, rfl, t3, hn3, by omega, by decide, hl, fun z l' a' b' c' H4 e4 t4 hw h8 hk => hQ z l' a' b' c' H4 (((e1.trans e2).trans e3).trans e4) t4 hw h8 fun k h => hlt k (hk k h)⟩
end
end Wk
end
section
set_option maxHeartbeats 4000000
/-! The law's tape; made. -/
namespace Wk
open PySem PySem.Spec PyProof.Rows L2 Cl TL LamX
/-- the colouring of a net with this text -/
def gOf (a b c : Int) (l : List Nat) (x y : Int) : Nat := (l[(Mn.lowy c y * a + Mn.lowx a b c x y).toNat]?).getD 97
theorem gOf_mem {a b c : Int} {l : List Nat} (ok : Mn.Ok a b c) (hl : l.length = (a * c).toNat) (x y : Int) : gOf a b c l x y ∈ l := by
  obtain ⟨q1, q2, q3, q4⟩ := low_cell (x := x) (y := y) ok
  obtain ⟨h1, h2, _, _⟩ := cell_ix q1 q2 q3 q4
  unfold gOf
  rw [List.getElem?_eq_getElem (by omega)]
  exact List.getElem_mem _
theorem gOf_per {a b c : Int} {l : List Nat} (ok : Mn.Ok a b c) : PerN a b c (gOf a b c l) := by
  intro u v h x y
  unfold gOf
  obtain ⟨e1, e2⟩ := (Mn.low_eq (x := x + u) (y := y + v) (u := x) (v := y) ok).mpr (by
    rw [show x + u - x = u by omega, show y + v - y = v by omega]; exact h)
  rw [e1, e2]
theorem gOf_txt {a b c : Int} {l : List Nat} (ok : Mn.Ok a b c) (hl : l.length = (a * c).toNat) : txt a c (gOf a b c l) = l := by
  refine List.ext_getElem? fun i => ?_
  by_cases hi : i < (a * c).toNat
  · unfold txt
    rw [List.getElem?_map, List.getElem?_range hi]
    have ha := ok.a
    have x0 := Int.emod_nonneg (i : Int) (show a ≠ 0 by omega)
    have x1 := Int.emod_lt_of_pos (i : Int) ha
    have y0 : 0 ≤ (i : Int) / a := Int.ediv_nonneg (by omega) (by omega)
    have y1 : (i : Int) / a < c := Int.ediv_lt_of_lt_mul ha (by rw [Int.mul_comm c a]; omega)
    have h1 : Mn.lowx a b c ((i : Int) % a) ((i : Int) / a) = (i : Int) % a := by
      unfold Mn.lowx
      rw [Int.ediv_eq_zero_of_lt y0 y1, Int.zero_mul, Int.sub_zero, Int.emod_eq_of_lt x0 x1]
    have h2 : Mn.lowy c ((i : Int) / a) = (i : Int) / a := by
      unfold Mn.lowy
      rw [Int.ediv_eq_zero_of_lt y0 y1, Int.zero_mul, Int.sub_zero]
    show some (gOf a b c l ((i : Int) % a) ((i : Int) / a)) = _
    unfold gOf
    rw [h1, h2]
    have h3 : ((i : Int) / a * a + (i : Int) % a).toNat = i := by
      have := Int.mul_ediv_add_emod (i : Int) a
      rw [Int.mul_comm] at this
      omega
    rw [h3, List.getElem?_eq_getElem (by omega)]
    rfl
  · rw [List.getElem?_eq_none (by rw [txt_len]; omega), List.getElem?_eq_none (by omega)]
theorem row_cut {a c : Int} {g : Int → Int → Nat} {k : Nat} (ha : 0 < a) (hk : (k : Int) < c) : cutS (mkS (txt a c g)) (some (a * k)) (some (a * k + a)) = mkS (rowOf a g k) := by
  have h0 : 0 ≤ a * (k : Int) := Int.mul_nonneg (by omega) (by omega)
  have h1 : a * ((k : Int) + 1) ≤ a * c := Int.mul_le_mul_of_nonneg_left (by omega) (by omega)
  rw [Int.mul_add, Int.mul_one] at h1
  unfold cutS
  rw [mkS_len, txt_len, mkS_list]
  have s1 : HT.sIx (a * c).toNat 0 (some (a * (k : Int))) = (a * (k : Int)).toNat := by
    show (if a * (k : Int) < 0 then _ else min _ _) = _
    rw [if_neg (by omega)]
    omega
  have s2 : HT.sIx (a * c).toNat (a * c).toNat (some (a * (k : Int) + a)) = (a * (k : Int) + a).toNat := by
    show (if a * (k : Int) + a < 0 then _ else min _ _) = _
    rw [if_neg (by omega)]
    omega
  rw [s1, s2]
  have e : (a * (k : Int) + a).toNat - (a * (k : Int)).toNat = a.toNat := by omega
  rw [e]
  show mkS _ = mkS _
  congr 1
  refine List.ext_getElem? fun i => ?_
  by_cases hi : i < a.toNat
  · rw [List.getElem?_take_of_lt hi, List.getElem?_drop]
    have e2 : (a * (k : Int)).toNat + i = ((k : Int) * a + (i : Int)).toNat := by
      rw [Int.mul_comm (k : Int) a]; omega
    rw [e2, txt_at (by omega) (by omega) (by omega) hk]
    unfold rowOf
    rw [List.getElem?_map, List.getElem?_range hi]
    rfl
  · rw [List.getElem?_eq_none (by rw [List.length_take]; omega), List.getElem?_eq_none (by rw [rowOf_len]; omega)]
theorem scTape : FnScope ["_law_script"] ["_law_script"] (defScope sTape) := ⟨rfl, rfl, rfl, by decide +kernel, rfl, by decide +kernel, by decide +kernel⟩
def spTape (K : PySem.W.Frag) : Sp := fun vs H Q _ => ∃ (S : Addr) (cs : List Int), vs = [.ref S] ∧ SqL K H S (cs.map V.int) ∧ cs.length ≤ 1000 ∧ ∀ D L H', Ex H H' → Tape D L H' → Q (.ref D) H'
theorem scMade : FnScope ["_law_tape_here", "_law_net_here", "_law_text", "_law_k", "_law_rows"] ["_law_tape_here", "_law_net_here", "_law_text"] (defScope sMade) := ⟨rfl, rfl, rfl, by decide +kernel, rfl, by decide +kernel, by decide +kernel⟩
def spMade (Cn : Addr) (Cs : List Addr) : Sp := fun vs H Q _ => ∃ (D L n : Addr) (a b c : Int) (l : List Nat), vs = [.ref D, .ref n, .str (mkS l)] ∧ Tape D L H ∧ NT H n a b c ∧ a * c ≤ 8 ∧ l.length = (a * c).toNat ∧ (∀ k ∈ l, Ltr k) ∧
  ∀ z g a' b' c' H', ExB D H H' → Tape D L H' → CarV Cn Cs H' z g a' b' c' → a' * c' ≤ 8 → (∀ x y, Ltr (g x y)) → Q z H'
section
variable {P : Program} {w : World} {K : PySem.W.Frag} {mg : Str → Option Value} {base : Heap} {f fD fN fO fI Cn C D : Addr} {Cs : List Addr} {fd : FuncData}
theorem bList : bootBuiltins "list" = some (.type "list") := by decide +kernel
theorem ok_tape (F : FD K "_law_tape" "_law_tape" sTape f fd) (B : Bl mg) : FnR P w K mg base C0 1 f (spTape K) := by
  refine rawOf (okOf F scTape (fun vs H Q E h => ?_) fun cdv A outer s H vs Q E hr h => ?_) (F.bindsN fun _ _ _ _ _ _ us hl => match us, hl with | [_], _ => rfl)
  · obtain ⟨_, _, rfl, _⟩ := h; rfl
  obtain ⟨S, cs, rfl, hS, hz, hQ⟩ := h
  refine ⟨_, pss_one (ps_ret (pe_lst (pa_cons (pe_callTy call_list_of rfl B.list bList (pa_cons (pe_slice sl_list (pv 0) po_none (po_some pe_int)) pa_nil)) (pa_cons pe_int (pa_cons pe_int (pa_cons pe_int pa_nil)))))), ?_⟩
  refine ⟨_, rfl, _, rfl, S, _, rfl, hS, fun p np => ?_⟩
  have e1 := Ex.upd (o := .lst (cutV (cs.map V.int) none (some 63))) np
  refine ⟨p, _, rfl, .inl (SqL.of upd_same), fun L nL => ?_⟩
  have e2 := Ex.upd (o := .lst (cutV (cs.map V.int) none (some 63))) nL
  refine ⟨by show 4 ≤ sizeLine; decide, fun D nD => ?_⟩
  have e3 := Ex.upd (o := .lst [.ref L, .int 0, .int 0, .int 17]) nD
  have hcut : cutV (cs.map V.int) none (some 63) = ((cs.drop (HT.sIx cs.length 0 none)).take (HT.sIx cs.length cs.length (some 63) - HT.sIx cs.length 0 none)).map V.int := by
    unfold cutV
    rw [List.length_map, List.map_take, List.map_drop]
  have hLD : L ≠ D := fun z => by rw [← z, upd_same] at nD; cases nD
  refine hQ D L _ ((e1.trans e2).trans e3) ⟨(cs.drop (HT.sIx cs.length 0 none)).take (HT.sIx cs.length cs.length (some 63) - HT.sIx cs.length 0 none), 0, 0, 17, hLD, upd_same, ?_, ?_, by decide, by decide, by decide, by decide⟩
  · rw [upd_ne hLD, upd_same, hcut]
  · rw [List.length_take, List.length_drop]; omega
theorem ok_made (F : FD K "_law_made" "_law_made" sMade f fd) (B : Bl mg) (T : NetF K mg Cn) (FN : FnR P w K mg base C0 3 fN (spNetInit Cn)) (mk : Mk K Cn fN) (FDr : FnR P w K mg base C0 1 fD spDraw) (GD : Gb K mg "_law_draw" fD)
    (FO : FnR P w K mg base C0 9 fO (spOn Cn D)) (SO : Ss K C "on" fO) (gC : mg "Carpet" = some (.ref C)) (kC : PySem.W.keepIn K (.ref C) = true) (FI : KFn P w K mg base 7 fI 2 ["shift"] (spCarInit Cn C)) (mkC : Mk K C fI) (hC : C ∈ Cs) (hD : D ∈ Cs) : FnR P w K mg base C0 10 f (spMade Cn Cs) := by
  refine rawOf (okOf F scMade (fun vs H Q E h => ?_) fun cdv A outer s H vs Q E hr h => ?_) (F.bindsN fun _ _ _ _ _ _ us hl => match us, hl with | [_, _, _], _ => rfl)
  · obtain ⟨_, _, _, _, _, _, _, rfl, _⟩ := h; rfl
  obtain ⟨T0, L, n, a, b, c, l, rfl, tp, hn, h8, hl, hlt, hQ⟩ := h
  have hr1 : Room 1 (A.deeper (envOfC "_law_made" (defScope sMade) s.heap.objs.size f cdv)) := hr.mono (by decide)
  have hr4 : Room 4 (A.deeper (envOfC "_law_made" (defScope sMade) s.heap.objs.size f cdv)) := hr.mono (by decide)
  have hr8 : Room 8 (A.deeper (envOfC "_law_made" (defScope sMade) s.heap.objs.size f cdv)) := hr.mono (by decide)
  obtain ⟨a1, a2, cc1, cc2, b1, b2, ac, ac1⟩ := hn.le
  have ok := hn.2.1
  refine ⟨_, pss_cons (ps_if (pt_cmpR op_eq (pe_g FDr GD hr1 rfl (pa_cons (pv 0) (pa_cons pe_int pa_nil))) pe_int (nomark _))
      (pss_one (ps_ret (pe_s (pe_glob (v := .ref C) rfl gC rfl) SO FO hr (pa_cons (StX.pe_makeR mk FN hr4 rfl T.g (passes0 (E := EN)) (pa_cons (pe_ix ix_tup (pv 1) pe_int (fun _ _ => rfl)) (pa_cons (pe_ix ix_tup (pv 1) pe_int (fun _ _ => rfl)) (pa_cons (pe_ix ix_tup (pv 1) pe_int (fun _ _ => rfl)) pa_nil)))) (pa_cons (pv 2) pa_nil))))) pss_nil)
    (pss_cons (ps_setLc (i := 4) (own := [("_law_k", 3)]) (g := gName 3) (tt := tYes) rfl scMade.nd rfl rfl (sw_true rfl rfl rfl (by decide +kernel)) (pi_range1 rfl B.range (pa_cons (pe_ix ix_tup (pv 1) pe_int (fun _ _ => rfl)) pa_nil)) (blkOk_by (N := ["_law_tape_here", "_law_net_here", "_law_text", "_law_k", "_law_rows"]) (sc := defScope sMade) (by decide +kernel))
      (fun _ _ _ _ _ => pg_name (i := 3) scMade.nd rfl (Or.inl rfl)) (fun _ _ _ _ _ => pts_nil)
      (fun _ _ _ _ _ => pe_slice sl_str (pv 2) (po_some (pe_op op_mul (pe_ix (ixT (K := K) rfl) (pv 1) pe_int (fun _ _ => rfl)) (pv 3))) (po_some (pe_op op_add (pe_op op_mul (pe_ix (ixT (K := K) rfl) (pv 1) pe_int (fun _ _ => rfl)) (pv 3)) (pe_ix (ixT (K := K) rfl) (pv 1) pe_int (fun _ _ => rfl))))))
    (pss_one (ps_ret (pe_mkK mkC FI hr8 rfl gC (pa_cons (pv 4) pa_nil) (pk_cons (pe_op op_add (pe_ix ix_tup (pv 1) pe_int (fun _ _ => rfl)) (pe_op op_mul (pe_ix ix_tup (pv 1) pe_int (fun _ _ => rfl)) (pe_op op_sub (pe_g FDr GD hr1 rfl (pa_cons (pv 0) (pa_cons pe_int pa_nil))) pe_int))) pk_nil))))), ?_⟩
  have n0 := atI_nat (xs := [V.int a, V.int b, V.int c]) (j := 0) rfl
  have n1 := atI_nat (xs := [V.int a, V.int b, V.int c]) (j := 1) rfl
  have n2 := atI_nat (xs := [V.int a, V.int b, V.int c]) (j := 2) rfl
  have hlt2 : ∀ x y, Ltr (gOf a b c l x y) := fun x y => hlt _ (gOf_mem ok hl x y)
  refine ⟨_, rfl, T0, L, _, rfl, tp, by decide, by decide, fun r H1 x1 y1 e1 t1 => ?_⟩
  have hn1 : NT H1 n a b c := hn.i fun _ _ q => ExB.tu tp e1 q
  have nn := SqT.of (K := K) hn1.1
  refine ⟨rfl, _, rfl, ?_⟩
  refine ifD (fun _ => ?_) fun _ => ?_
  · refine ⟨rfl, _, rfl, n, _, _, _, rfl, rfl, nn, n0, _, rfl, n, _, _, _, rfl, rfl, nn, n1, _, rfl, n, _, _, _, rfl, rfl, nn, n2, ?_⟩
    intro x dx nx nd ne
    refine ⟨x, dx, a, b, c, rfl, upd_same, ok, by omega, fun H2 e2 N => ⟨rfl, _, rfl, ?_⟩⟩
    have e12 := made_ext nx nd e2
    refine ⟨_, a, b, c, gOf a b c l, by rw [gOf_txt ok hl], N, gOf_per ok, fun x y => (hlt2 x y).let, by omega, fun z H3 a' b' c' e3 cv hz => ?_⟩
    exact hQ z _ a' b' c' H3 (e1.trans (.of (e12.trans e3))) (t1.e (e12.trans e3)) (cv.mono fun E h => by
      obtain rfl := List.mem_singleton.mp h
      exact hD) (by omega) hlt2
  · refine ⟨_, rfl, n, _, _, _, rfl, rfl, nn, n2, c, rfl, by omega, by omega, fun D5 hD5 => ?_⟩
    refine lc_by (R := fun j o _ => j < c.toNat ∧ o = some (.str (mkS (rowOf a (gOf a b c l) j)))) walk_range hD5 (fun i x H2 hi hx p => ?_) (fun H2 p => ?_)
    · subst hx
      rw [Int.zero_add]
      have nn2 := SqT.of (K := K) (p.1 _ _ hn1.1)
      refine ⟨rfl, _, rfl, _, rfl, n, _, _, _, rfl, rfl, nn2, n0, _, rfl, _, _, rfl, rfl, .inl ⟨by omega, by omega⟩, _, rfl, _, rfl, n, _, _, _, rfl, rfl, nn2, n0, _, rfl, _, _, rfl, rfl, .inl ⟨by omega, by omega⟩, _, rfl, n, _, _, _, rfl, rfl, nn2, n0, _, _, rfl, rfl, _, rfl, ?_⟩
      refine ⟨_, rfl, by rw [mkS_len, hl]; show _ ≤ 2 ^ 24; omega, ?_⟩
      have hcut := row_cut (g := gOf a b c l) (k := i) (show 0 < a by omega) (show (i : Int) < c by omega)
      rw [gOf_txt ok hl] at hcut
      rw [hcut]
      exact p.yes (fun j o H H' _ r => r) hD5 (Ex.refl _) ⟨hi, rfl⟩ (by show i < 2 ^ 24; omega)
    · obtain ⟨e2, outs, hol, hD6, ho⟩ := p
      have hrows : outs.filterMap id = (rowsOf a c (gOf a b c l)).map fun r => V.str (mkS r) := outs_some (by rw [List.length_map, rowsOf_len, hol]) fun j o q => by
        obtain ⟨h1, h2⟩ := ho j o q
        refine ⟨_, ?_, h2⟩
        unfold rowsOf
        rw [List.getElem?_map, List.getElem?_map, List.getElem?_range h1]
        rfl
      rw [hrows] at hD6
      have nn2 := SqT.of (K := K) (e2 _ _ hn1.1)
      have t2 := t1.e e2
      refine ⟨_, rfl, _, rfl, n, _, _, _, rfl, rfl, nn2, n1, _, rfl, n, _, _, _, rfl, rfl, nn2, n0, _, rfl, T0, L, _, rfl, t2, by decide, by decide, fun r2 H3 x2 y2 e3 t3 => ⟨_, _, rfl, rfl, _, _, rfl, rfl, .inr ⟨by omega, by omega⟩, _, _, rfl, rfl, rfl, rfl, ?_⟩⟩
      have hD7 := e3 _ _ (t1.fresh hD5).1 hD6
      intro x dx nx nd ne
      have e45 : Ex H3 (upd (upd H3 dx (.own x)) x (.ins C dx [])) := made_ext nx nd (fun b u _ h => h)
      have hmod : (b + a * (r2 - 2)) % a = b := by
        rw [Int.add_mul_emod_self_left, Int.emod_eq_of_lt b1 b2]
      have a8 := le_mul_pos (a := a) (x := c) (by omega) cc1
      have c8 := le_mul_pos (a := c) (x := a) (by omega) a1
      rw [Int.mul_comm] at c8
      refine ⟨x, dx, D5, a, c, _, gOf a b c l, rfl, upd_same, e45 _ _ hD7, by omega, by omega, by omega, by omega, by omega, fun x y => (hlt2 x y).let, by rw [hmod]; exact gOf_per ok, fun H5 a' b' c' e5 cv hz => ⟨rfl, ?_⟩⟩
      have e35 := made_ext nx nd e5
      exact hQ _ _ a' b' c' H5 (((e1.trans (.of e2)).trans e3).trans (.of e35)) (t3.e e35) (cv.mono fun E h => by
        obtain rfl := List.mem_singleton.mp h
        exact hC) (by omega) hlt2
end
end Wk
end
section
set_option maxHeartbeats 4000000
/-! The law's mathematics. -/
namespace Wk
open PySem PySem.Spec PyProof.Rows L2 Cl TL LamX
/-- two nets have a common one -/
theorem inter_net {a b c p q r : Int} (h : Mn.Ok a b c) (g : Mn.Ok p q r) : ∃ a' b' c', Mn.Ok a' b' c' ∧ (∀ x y, Mn.In a' b' c' x y ↔ Mn.In a b c x y ∧ Mn.In p q r x y) ∧ a' * c' ≤ (a * c) * (p * r) := by
  have a0 := h.a
  have c0 := h.c
  have p0 := g.a
  have r0 := g.c
  obtain ⟨u1, u2, u3, u0, u4⟩ := lcm_up c0 r0
  obtain ⟨i, j, hij⟩ := Mn.bez_ex a p
  have d0 : (0 : Int) < (Int.gcd a p : Nat) := by
    have := Int.gcd_pos_of_ne_zero_left p (show a ≠ 0 by omega)
    omega
  have B : Mn.Bez a p (Int.gcd a p : Nat) i := ⟨d0, Int.gcd_dvd_left .., Int.gcd_dvd_right .., fun e h1 h2 => Int.dvd_coe_gcd h1 h2, ⟨-j, by rw [hij]; grind⟩⟩
  obtain ⟨C1, C2, C3, _⟩ := Mn.common_in h g u1 u2 u3 u0 B rfl rfl rfl
  refine ⟨_, _, _, C1, C2, Int.le_trans C3 ?_⟩
  have l1 : a * p * (c * r / (Int.gcd c r : Nat)) ≤ a * p * (c * r) := Int.mul_le_mul_of_nonneg_left u4 (Int.mul_nonneg (by omega) (by omega))
  have l2 : a * p * (c * r) = a * c * (p * r) := by grind
  omega
/-- the sampled net -/
theorem smp_ex {a b c w h : Int} (ok : Mn.Ok a b c) (hw : 0 < w) (hh : 0 < h) : ∃ p q r, Mn.Ok p q r ∧ p * r ≤ a * c ∧ ∀ u v, Mn.In p q r u v → Mn.In a b c (w * u) (h * v) := by
  obtain ⟨p, q, r, ok1, hin, hs⟩ := inter_net ok (show Mn.Ok w 0 h from ⟨by omega, by omega, by omega⟩)
  obtain ⟨o1, _, o3⟩ := smp_net ok1 hw hh hin
  refine ⟨_, _, _, o1, ?_, o3⟩
  obtain ⟨k1, m1, e1, e2⟩ := ((hin p 0).mp Mn.in_a).2
  obtain ⟨k2, m2, e3, e4⟩ := ((hin q r).mp Mn.in_bc).2
  have dp : p = m1 * w := by rw [e1]; omega
  rw [show p / w = m1 by rw [dp, Int.mul_ediv_cancel _ (by omega)], show r / h = k2 by rw [e4, Int.mul_ediv_cancel _ (by omega)]]
  have hwh : 0 < w * h := Int.mul_pos hw hh
  refine Int.le_of_mul_le_mul_right ?_ hwh
  have : m1 * k2 * (w * h) = p * r := by rw [dp, e4]; grind
  omega
theorem per_size {g : Int → Int → Nat} {a b c p q r : Int} (can : Mn.Canon g a b c) (ok : Mn.Ok p q r) (per : PerN p q r g) : a * c ≤ p * r := Mn.sub_size ok can.ok fun u v h => (can.per u v).mpr (per u v h)
/-- nets of colourings that keep a net -/
def Keeps (p q r : Int) (gs : List GN) : Prop := ∀ q0 ∈ gs, PerN p q r q0.1 ∧ Mn.Canon q0.1 q0.2.1 q0.2.2.1 q0.2.2.2
theorem below_of {p q r : Int} {gs : List GN} (ok : Mn.Ok p q r) (hz : p * r ≤ 1000) (h : Keeps p q r gs) : Below (gs.map (·.2)) p q r := ⟨ok, hz, fun n hn x y hxy => by
  obtain ⟨g, hg, rfl⟩ := List.mem_map.mp hn
  obtain ⟨h1, h2⟩ := h g hg
  exact (h2.per x y).mpr (h1 x y hxy)⟩
theorem below2 {p q r : Int} {g1 g2 : Int → Int → Nat} {a b c a' b' c' : Int} (ok : Mn.Ok p q r) (hz : p * r ≤ 1000) (h1 : PerN p q r g1) (c1 : Mn.Canon g1 a b c) (h2 : PerN p q r g2) (c2 : Mn.Canon g2 a' b' c') : Below [(a, b, c), (a', b', c')] p q r :=
  below_of (gs := [(g1, a, b, c), (g2, a', b', c')]) ok hz fun q0 hq => by
    simp only [List.mem_cons, List.not_mem_nil, or_false] at hq
    rcases hq with rfl | rfl
    · exact ⟨h1, c1⟩
    · exact ⟨h2, c2⟩
theorem perN_ov {p q r : Int} {g1 g2 : Int → Int → Nat} {k : Nat} (h1 : PerN p q r g1) (h2 : PerN p q r g2) : PerN p q r (ovG g1 g2 k) := fun u v h => per_ov (h1 u v h) (h2 u v h)
theorem perN_msk {p q r : Int} {g1 g2 : Int → Int → Nat} {l : List Nat} {k : Nat} (h1 : PerN p q r g1) (h2 : PerN p q r g2) : PerN p q r (mskG g1 g2 l k) := fun u v h => per_msk (h1 u v h) (h2 u v h)
theorem perN_rec {p q r : Int} {g : Int → Int → Nat} {t : List (Nat × Nat)} (h : PerN p q r g) : PerN p q r (recG g t) := fun u v hh x y => by
  unfold recG
  rw [h u v hh x y]
/-! the rules -/
theorem ov_assoc (g1 g2 g3 : Int → Int → Nat) (k : Nat) (x y : Int) : ovG (ovG g1 g2 k) g3 k x y = ovG g1 (ovG g2 g3 k) k x y := by
  unfold ovG
  by_cases h : g1 x y = k
  · simp only [h, if_true]
  · simp only [h, if_false]
theorem lay_ov (g1 g2 g3 : Int → Int → Nat) (n1 n2 n3 : N3) (k : Nat) (x y : Int) : layG [(g1, n1), (g2, n2), (g3, n3)] k x y = ovG (ovG g1 g2 k) g3 k x y := by
  unfold layG unlike ovG
  simp only [List.map_cons, List.map_nil]
  by_cases h : g1 x y = k
  · rw [List.find?_cons_of_neg (by simp [h])]
    by_cases h2 : g2 x y = k
    · rw [List.find?_cons_of_neg (by simp [h2])]
      by_cases h3 : g3 x y = k
      · rw [List.find?_cons_of_neg (by simp [h3])]; simp [h, h2, h3]
      · rw [List.find?_cons_of_pos (by simp [h3])]; simp [h, h2, h3]
    · rw [List.find?_cons_of_pos (by simp [h2])]; simp [h, h2]
  · rw [List.find?_cons_of_pos (by simp [h])]; simp [h]
theorem ov_same {g1 g2 g' : Int → Int → Nat} {k : Nat} (h : ∀ x y, g1 x y = k → g' x y = g2 x y) (x y : Int) : ovG g1 g' k x y = ovG g1 g2 k x y := by
  unfold ovG
  by_cases h1 : g1 x y = k
  · rw [if_pos h1, if_pos h1, h x y h1]
  · rw [if_neg h1, if_neg h1]
/-- the law's table -/
def lawT : List (Nat × Nat) := [(97, 98), (98, 113), (113, 97), (122, 99), (99, 122)]
theorem app_law (n : Nat) : app lawT n = if n = 97 then 98 else if n = 98 then 113 else if n = 113 then 97 else if n = 122 then 99 else if n = 99 then 122 else n := by
  unfold app lawT
  simp only [List.lookup_cons, List.lookup_nil]
  by_cases h1 : n = 97
  · subst h1; rfl
  by_cases h2 : n = 98
  · subst h2; rfl
  by_cases h3 : n = 113
  · subst h3; rfl
  by_cases h4 : n = 122
  · subst h4; rfl
  by_cases h5 : n = 99
  · subst h5; rfl
  rw [show (n == 97) = false by simpa using h1, show (n == 98) = false by simpa using h2, show (n == 113) = false by simpa using h3, show (n == 122) = false by simpa using h4, show (n == 99) = false by simpa using h5]
  simp [h1, h2, h3, h4, h5]
theorem app_inj {n m : Nat} (h : app lawT n = app lawT m) : n = m := by
  rw [app_law, app_law] at h
  split at h <;> split at h <;> first | omega | (split at h <;> first | omega | (split at h <;> first | omega | (split at h <;> first | omega | (split at h <;> first | omega | (split at h <;> first | omega | (split at h <;> first | omega | (split at h <;> first | omega | (split at h <;> first | omega | (split at h <;> omega)))))))))
theorem rec_ov (g1 g2 : Int → Int → Nat) (k : Nat) (x y : Int) : recG (ovG g1 g2 k) lawT x y = ovG (recG g1 lawT) (recG g2 lawT) (app lawT k) x y := by
  unfold recG ovG
  by_cases h : g1 x y = k
  · rw [if_pos h, if_pos (show app lawT (g1 x y) = app lawT k by rw [h])]
  · rw [if_neg h, if_neg (show ¬ app lawT (g1 x y) = app lawT k from fun z => h (app_inj z))]
theorem msk_ov {g1 g2 : Int → Int → Nat} {k : Nat} {l : List Nat} (hk : k ∉ l) (hl : ∀ x y, g1 x y ≠ k → g1 x y ∈ l) (hy : ∀ x y, g1 x y ≠ 121) (x y : Int) : ovG (mskG g1 g1 l 121) (mskG g2 g1 [k] 121) 121 x y = ovG g1 g2 k x y := by
  unfold ovG mskG
  by_cases h : g1 x y = k
  · rw [if_neg (show ¬ g1 x y ∈ l by rw [h]; exact hk), if_pos rfl, if_pos (by rw [h]; simp), if_pos h]
  · rw [if_pos (hl x y h), if_neg (hy x y), if_neg h]
theorem cols_mem {t : List Nat} {n : Nat} : n ∈ cols t ↔ Letter n ∧ n ∈ t := by
  unfold cols
  rw [List.mem_filter, List.mem_range'_1]
  unfold Letter
  simp only [decide_eq_true_eq]
  constructor
  · rintro ⟨h1, h2⟩
    exact ⟨by omega, h2⟩
  · rintro ⟨h1, h2⟩
    exact ⟨by omega, h2⟩
theorem g_in_txt {g : Int → Int → Nat} {a b c : Int} (can : Mn.Canon g a b c) (x y : Int) : g x y ∈ txt a c g := by
  obtain ⟨q1, q2, q3, q4⟩ := low_cell (x := x) (y := y) can.ok
  have h := txt_at (f := g) q1 q2 q3 q4
  rw [Mn.f_low fun u v h => (can.per u v).mp h] at h
  exact List.mem_of_getElem? h
theorem txt_val {g : Int → Int → Nat} {a c : Int} {n : Nat} (h : n ∈ txt a c g) : ∃ x y, n = g x y := by
  unfold txt at h
  obtain ⟨i, _, rfl⟩ := List.mem_map.mp h
  exact ⟨_, _, rfl⟩
end Wk
end
section
set_option maxHeartbeats 8000000
/-! The law. -/
namespace Wk
open PySem PySem.Spec PyProof.Rows L2 Cl TL LamX
/-- what stands between two statements of the law -/
structure LS (T : List (Addr × Str)) (D L : Addr) (H : Hp) : Prop where
  tape : Tape D L H
  tabs : Tabs T H
theorem Tabs.exB {T : List (Addr × Str)} {D : Addr} {xs : List V} {H H' : Hp} (t : Tabs T H) (hD : H D = some (.lst xs)) (e : ExB D H H') : Tabs T H' := fun p hp => by
  obtain ⟨ps, h1, h2, h3⟩ := t p hp
  refine ⟨ps, e _ _ (fun z => by rw [z, hD] at h1; cases h1) h1, h2, fun pos cv hc => ?_⟩
  obtain ⟨c, e1, e2⟩ := h3 pos cv hc
  exact ⟨c, e1, e _ _ (fun z => by rw [z, hD] at e2; cases e2) e2⟩
theorem LS.n {T : List (Addr × Str)} {D L : Addr} {H H' : Hp} (s : LS T D L H) (e : ExtN H H') (t : Tabs T H') : LS T D L H' := ⟨s.tape.ext e, t⟩
theorem LS.e {T : List (Addr × Str)} {D L : Addr} {H H' : Hp} (s : LS T D L H) (e : Ex H H') : LS T D L H' := ⟨s.tape.e e, s.tabs.ext e⟩
theorem LS.b {T : List (Addr × Str)} {D L : Addr} {H H' : Hp} (s : LS T D L H) (e : ExB D H H') (t : Tape D L H') : LS T D L H' := ⟨t, by
  obtain ⟨xs, h⟩ := s.tape.lst
  exact Wk.Tabs.exB s.tabs h e⟩
theorem ExtI.trans {H H1 H2 : Hp} (a : ExtI H H1) (b : ExtI H1 H2) : ExtI H H2 := fun c o h n => b c o (a c o h n) n
theorem ExtI.ofE {H H' : Hp} (e : Ex H H') : ExtI H H' := fun b o h _ => e b o h
theorem LS.i {T : List (Addr × Str)} {D L : Addr} {H H' : Hp} (s : LS T D L H) (e : ExB D H H') : ExtI H H' := ExB.i s.tape e
theorem extI_lst {H : Hp} {p : Addr} {xs : List V} {u : HO} (h : H p = some (.lst xs)) : ExtI H (upd H p u) := fun b o q k => by
  rw [upd_ne (fun z => by
    rw [z, h] at q
    cases q
    rcases k with ⟨_, _, _, z⟩ | ⟨_, z⟩ <;> cases z)]
  exact q
/-- a loop over a range -/
theorem for_rng {lo : Int} {n : Nat} {g : TG} {tb : TS} {D : Ends} {σ : L2.St} {H1 : Hp} (Pv : Nat → L2.St → Hp → Prop) (h0 : Pv 0 σ H1)
    (hs : ∀ (i : Nat) σ H, i < n → Pv i σ H → g (.int (lo + (i : Nat))) σ H fun σ2 H2 => tb { D with nx := Pv (i + 1), ct := Pv (i + 1), bk := D.nx } σ2 H2) (hd : ∀ σ H, Pv n σ H → D.nx σ H) :
    ∃ W : Nat → Nat → L2.St → Hp → Prop, (∃ m, W 0 m σ H1) ∧ ∀ i m σ H, W i m σ H →
      ((Itr lo n).stop i H ∧ D.nx σ H) ∨ ((Itr lo n).go i H ∧ ∃ N : L2.St → Hp → Prop, (∀ σ' H', N σ' H' → ∃ m', m' < m ∧ W (i + 1) m' σ' H') ∧ ∀ x H', (Itr lo n).yld i H x H' → g x σ H' fun σ2 H2 => tb { D with nx := N, ct := N, bk := D.nx } σ2 H2) := by
  refine ⟨fun i m σ H => m = n - i ∧ i ≤ n ∧ Pv i σ H, ⟨n, by simp, Nat.zero_le _, h0⟩, ?_⟩
  rintro i m σ H ⟨rfl, hi, p⟩
  by_cases hlt : i < n
  · refine .inr ⟨hlt, Pv (i + 1), fun σ' H' p' => ⟨n - (i + 1), by omega, rfl, hlt, p'⟩, fun x H' y => ?_⟩
    obtain ⟨e, q⟩ := (show H' = H ∧ x = .int (lo + (i : Nat)) from y)
    subst e q
    exact hs i σ _ hlt p
  · have e : i = n := by omega
    subst e
    exact .inl ⟨Nat.le_refl _, hd σ H p⟩
theorem op_mulC {X : Cx} {k : Nat} {M f : Addr} {Cs : List Addr} {sp : Sp} (F : FnR X.prog X.w X.K X.mg X.base C0 k f sp) (hr : Room k X.A) (O : ∀ C ∈ Cs, Op2F X.K C M (PySem.dunder (Operator.info .Mult).2) (PySem.dunderR (Operator.info .Mult).2) f) :
    OpR X (binaryOp .Mult) (fun x y H Q => ∃ C, C ∈ Cs ∧ rOwnB C M sp id x y H Q) := by
  intro pins s σ H x y v u Q I rx ry ⟨C, hC, h⟩
  exact op2 F hr (O C hC) pins s σ H x y v u Q I rx ry h
def rNeC (Cn C : Addr) (Cs : List Addr) : R2 := fun x y H Q => rOwnB C C (spCarEq Cn Cs) id x y H fun v H' => ∃ b, v = .bl b ∧ Q (.bl (!b)) H'
theorem op_neC {X : Cx} {Cn C fEq : Addr} {Cs : List Addr} (F : FnR X.prog X.w X.K X.mg X.base C0 2 fEq (spCarEq Cn Cs)) (hr : Room 3 X.A) (hs : PySem.W.findIn X.K (.ref C) "__eq__" = some (some (.ref fEq))) (hf : PySem.W.isFn X.K (.ref fEq) = true)
    (hn : PySem.W.findIn X.K (.ref C) "__ne__" = some (some (.builtin "object.__ne__"))) (hob : PySem.W.subIn X.K (.ref C) (.type "object") = some true) : OpR X (compareOp .NotEq) (rNeC Cn C Cs) := op_ownNe F hr hs hf hn hob
/-- != of two equal carpets -/
theorem ne_no {Cn C : Addr} {Cs : List Addr} {H : Hp} {x y : V} {g g' : Int → Int → Nat} {a b c a' b' c' : Int} {Q : VK} (hC : C ∈ Cs) (h1 : CarV Cn [C] H x g a b c) (h2 : CarV Cn [C] H y g' a' b' c') (he : ∀ u v, g u v = g' u v) (q : Q (.bl false) H) : rNeC Cn C Cs x y H Q := by
  have m1 : ∀ E ∈ [C], E ∈ Cs := fun E h => by
    obtain rfl := List.mem_singleton.mp h
    exact hC
  have k1 := h1.mono m1
  have k2 := h2.mono m1
  obtain ⟨o1, C1, dx1, n1, rfl, hC1, ho1, _⟩ := h1
  obtain ⟨o2, C2, dx2, n2, rfl, hC2, ho2, _⟩ := h2
  obtain rfl := List.mem_singleton.mp hC1
  obtain rfl := List.mem_singleton.mp hC2
  exact ⟨o1, o2, dx1, dx2, _, _, rfl, rfl, ho1, ho2, _, _, g, g', a, b, c, a', b', c', rfl, k1, k2, he, true, rfl, q⟩
/-- a carpet of the law's making -/
def Car8 (Cn : Addr) (Cs : List Addr) (H : Hp) (v : V) : Prop := ∃ g a b c, CarV Cn Cs H v g a b c ∧ a * c ≤ 8 ∧ ∀ x y, Ltr (g x y)
theorem Car8.i {Cn : Addr} {Cs : List Addr} {H H' : Hp} {v : V} (h : Car8 Cn Cs H v) (e : ExtI H H') : Car8 Cn Cs H' v := by
  obtain ⟨g, a, b, c, h1, h2⟩ := h
  exact ⟨g, a, b, c, h1.extI e, h2⟩
theorem len23 {α : Type} : ∀ {σ : List α}, σ.length = 23 → ∃ x0 x1 x2 x3 x4 x5 x6 x7 x8 x9 x10 x11 x12 x13 x14 x15 x16 x17 x18 x19 x20 x21 x22, σ = [x0, x1, x2, x3, x4, x5, x6, x7, x8, x9, x10, x11, x12, x13, x14, x15, x16, x17, x18, x19, x20, x21, x22]
  | [x0, x1, x2, x3, x4, x5, x6, x7, x8, x9, x10, x11, x12, x13, x14, x15, x16, x17, x18, x19, x20, x21, x22], _ => ⟨x0, x1, x2, x3, x4, x5, x6, x7, x8, x9, x10, x11, x12, x13, x14, x15, x16, x17, x18, x19, x20, x21, x22, rfl⟩
theorem CarV.can {Cn : Addr} {Cs : List Addr} {H : Hp} {v : V} {g : Int → Int → Nat} {a b c : Int} (m : CarV Cn Cs H v g a b c) : Mn.Canon g a b c := by
  obtain ⟨o, C, dx, n, h1, h2, h3, h4, h5, h6⟩ := m
  exact h5
theorem CarV.lets {Cn : Addr} {Cs : List Addr} {H : Hp} {v : V} {g : Int → Int → Nat} {a b c : Int} (m : CarV Cn Cs H v g a b c) : ∀ x y, Letter (g x y) := by
  obtain ⟨o, C, dx, n, h1, h2, h3, h4, h5, h6⟩ := m
  exact h6
theorem CarV.obj {Cn : Addr} {Cs : List Addr} {H : Hp} {v : V} {g : Int → Int → Nat} {a b c : Int} (m : CarV Cn Cs H v g a b c) : ∃ o C dx fs, v = .ref o ∧ C ∈ Cs ∧ H o = some (.ins C dx fs) := by
  obtain ⟨o, C, dx, n, h1, h2, h3, h4, h5, h6⟩ := m
  exact ⟨o, C, dx, _, h1, h2, h3⟩
theorem CarV.up {Cn C : Addr} {Cs : List Addr} {H : Hp} {v : V} {g : Int → Int → Nat} {a b c : Int} (m : CarV Cn [C] H v g a b c) (hC : C ∈ Cs) : CarV Cn Cs H v g a b c := m.mono fun E h => by
  obtain rfl := List.mem_singleton.mp h
  exact hC
theorem eY : ("y" : Str) = mkS [121] := by decide +kernel
theorem eA : ("a" : Str) = mkS [97] := by decide +kernel
section
variable {T : List (Addr × Str)} {Cn C M : Addr} {Cs : List Addr} {H : Hp} {v u u3 : V} {g g1 g2 g3 : Int → Int → Nat} {a b c a' b' c' a3 b3 c3 p q r : Int} {k : Nat} {Q : VK}
theorem ov_use (hk : Letter k) (tb : Tabs T H) (cv : CarV Cn Cs H v g1 a b c) (cu : CarV Cn Cs H u g2 a' b' c') (ok : Mn.Ok p q r) (hz : p * r ≤ 1000) (h1 : PerN p q r g1) (h2 : PerN p q r g2)
    (next : ∀ z H' a2 b2 c2, ExtN H H' → Tabs T H' → CarV Cn [C] H' z (ovG g1 g2 k) a2 b2 c2 → Q z H') : spOver T Cn C Cs [v, u, .str (mkS [k])] H Q EN :=
  ⟨v, u, g1, g2, a, b, c, a', b', c', p, q, r, k, rfl, hk, tb, cv, cu, below2 ok hz h1 cv.can h2 cu.can, next⟩
theorem ov_useY (tb : Tabs T H) (cv : CarV Cn Cs H v g1 a b c) (cu : CarV Cn Cs H u g2 a' b' c') (ok : Mn.Ok p q r) (hz : p * r ≤ 1000) (h1 : PerN p q r g1) (h2 : PerN p q r g2)
    (next : ∀ z H' a2 b2 c2, ExtN H H' → Tabs T H' → CarV Cn [C] H' z (ovG g1 g2 121) a2 b2 c2 → Q z H') : spOver T Cn C Cs [v, u, .str "y"] H Q EN := by
  rw [eY]
  exact ov_use ⟨by decide, by decide⟩ tb cv cu ok hz h1 h2 next
theorem msk_use {l : List Nat} (hl : l.length ≤ 26) (hL : ∀ n ∈ l, Letter n) (tb : Tabs T H) (cv : CarV Cn Cs H v g1 a b c) (cu : CarV Cn Cs H u g2 a' b' c') (ok : Mn.Ok p q r) (hz : p * r ≤ 1000) (h1 : PerN p q r g1) (h2 : PerN p q r g2)
    (next : ∀ z H' a2 b2 c2, ExtN H H' → Tabs T H' → CarV Cn [C] H' z (mskG g1 g2 l 121) a2 b2 c2 → Q z H') : spMsk T Cn C Cs [v, u, .str (mkS l), .str "y"] H Q EN := by
  rw [eY]
  exact ⟨v, u, g1, g2, a, b, c, a', b', c', p, q, r, l, 121, rfl, ⟨by decide, by decide⟩, hl, hL, tb, cv, cu, below2 ok hz h1 cv.can h2 cu.can, next⟩
theorem lay_use (hk : Letter k) (tb : Tabs T H) (cv : CarV Cn Cs H v g1 a b c) (cu : CarV Cn Cs H u g2 a' b' c') (c3' : CarV Cn Cs H u3 g3 a3 b3 c3) (ok : Mn.Ok p q r) (hz : p * r ≤ 1000) (h1 : PerN p q r g1) (h2 : PerN p q r g2) (h3 : PerN p q r g3)
    (next : ∀ z H' a2 b2 c2, ExtN H H' → Tabs T H' → CarV Cn [C] H' z (layG [(g1, (a, b, c)), (g2, (a', b', c')), (g3, (a3, b3, c3))] k) a2 b2 c2 → Q z H') : spLay T Cn C Cs [.str (mkS [k])] [v, u, u3] H Q EN := by
  refine ⟨[(g1, (a, b, c)), (g2, (a', b', c')), (g3, (a3, b3, c3))], p, q, r, k, rfl, rfl, hk, tb, ⟨rfl, fun i n hn => ?_⟩, below_of ok hz fun q0 hq => ?_, next⟩
  · match i, hn with
    | 0, hn =>
      obtain rfl : (g1, (a, b, c)) = n := by simpa using hn
      exact ⟨v, rfl, cv⟩
    | 1, hn =>
      obtain rfl : (g2, (a', b', c')) = n := by simpa using hn
      exact ⟨u, rfl, cu⟩
    | 2, hn =>
      obtain rfl : (g3, (a3, b3, c3)) = n := by simpa using hn
      exact ⟨u3, rfl, c3'⟩
  · simp only [List.mem_cons, List.not_mem_nil, or_false] at hq
    rcases hq with rfl | rfl | rfl
    · exact ⟨h1, cv.can⟩
    · exact ⟨h2, cu.can⟩
    · exact ⟨h3, c3'.can⟩
theorem unc_use {n : V} (hk : Letter k) (tb : Tabs T H) (cv : CarV Cn Cs H v (ovG g1 g2 k) a b c) (cu : CarV Cn Cs H u g1 a' b' c') (c2' : CarV Cn Cs H u3 g2 a3 b3 c3) (N : NetV Cn H n a3 b3 c3) (ok : Mn.Ok p q r) (hz : p * r ≤ 1000) (h1 : PerN p q r g1) (h2 : PerN p q r g2)
    (next : ∀ z H' g' a2 b2 c2, ExtN H H' → Tabs T H' → CarV Cn [C] H' z g' a2 b2 c2 → PerN p q r g' → (∀ x y, g1 x y = k → g' x y = g2 x y) → Q z H') : spUnc T Cn C Cs [v, u, n, .str (mkS [k])] H Q EN := by
  refine ⟨v, u, n, ovG g1 g2 k, g1, g2, a, b, c, a', b', c', a3, b3, c3, p, q, r, k, rfl, hk, tb, cv, cu, N, below_of (gs := [(ovG g1 g2 k, (a, b, c)), (g1, (a', b', c')), (g2, (a3, b3, c3))]) ok hz fun q0 hq => ?_, fun x y h => (c2'.can.per x y).mp h, c2'.lets, fun _ _ => rfl, fun z H' g' a2 b2 c2 e t cz pz hg => next z H' g' a2 b2 c2 e t cz (fun x y h => pz x y ((c2'.can.per x y).mpr (h2 x y h))) hg⟩
  simp only [List.mem_cons, List.not_mem_nil, or_false] at hq
  rcases hq with rfl | rfl | rfl
  · exact ⟨perN_ov h1 h2, cv.can⟩
  · exact ⟨h1, cu.can⟩
  · exact ⟨h2, c2'.can⟩
theorem mul_use {m : V} {kk : Str} {sx sy i1 i2 i3 i4 j1 j2 j3 j4 : Int} (cv : CarV Cn Cs H v g a b c) (hm : MotV M H m kk sx sy) (l1 : mats.lookup kk = some (i1, i2, i3, i4)) (l2 : mats.lookup (backK kk) = some (j1, j2, j3, j4)) (B : BackOf i1 i2 i3 i4 j1 j2 j3 j4)
    (next : ∀ z H' a2 b2 c2, Ex H H' → CarV Cn [C] H' z (movG g j1 j2 j3 j4 sx sy) a2 b2 c2 → a2 * c2 ≤ a * c → Q z H') : ∃ D, D ∈ Cs ∧ rOwnB D M (spCarMul Cn M C Cs) id v m H Q := by
  obtain ⟨o, D, dx, fs, rfl, hD, ho⟩ := cv.obj
  have hm0 := hm
  obtain ⟨o2, dx2, t2, rfl, ho2, _⟩ := hm0
  exact ⟨D, hD, o, o2, dx, dx2, _, _, rfl, rfl, ho, ho2, _, _, g, a, b, c, sx, sy, i1, i2, i3, i4, j1, j2, j3, j4, kk, rfl, cv, hm, l1, l2, B, next⟩
theorem inter_use (h1 : Mn.Canon g1 a b c) (h2 : Mn.Canon g2 a' b' c') (s1 : a * c ≤ 30) (s2 : a' * c' ≤ 30) : ∃ p q r, Mn.Ok p q r ∧ p * r ≤ (a * c) * (a' * c') ∧ p * r ≤ 1000 ∧ PerN p q r g1 ∧ PerN p q r g2 := by
  obtain ⟨p, q, r, ok, hin, hs⟩ := inter_net h1.ok h2.ok
  have e0 : 0 ≤ a' * c' := Int.mul_nonneg (by have := h2.ok.a; omega) (by have := h2.ok.c; omega)
  have e1 : (a * c) * (a' * c') ≤ 30 * 30 := Int.mul_le_mul s1 s2 e0 (by decide)
  exact ⟨p, q, r, ok, hs, by omega, fun u v h => (h1.per u v).mp ((hin u v).mp h).1, fun u v h => (h2.per u v).mp ((hin u v).mp h).2⟩
end
theorem atI_end {l : List Nat} (h : l ≠ []) : ∃ n, n ∈ l ∧ atI l (-1) = some n := by
  refine ⟨l.getLast h, List.getLast_mem h, ?_⟩
  have := atI_last l.dropLast (l.getLast h)
  rwa [List.dropLast_concat_getLast h] at this
theorem atI_head {l : List Nat} (h : l ≠ []) : ∃ n, n ∈ l ∧ atI l 0 = some n := by
  cases l with
  | nil => exact absurd rfl h
  | cons n r => exact ⟨n, List.mem_cons_self, atI_nat (j := 0) rfl⟩
theorem kinds_mat : ∀ k ∈ kindsL, ∃ i1 i2 i3 i4, mats.lookup k = some (i1, i2, i3, i4) := fun k hk => by
  have h : ∀ k ∈ kindsL, (mats.lookup k).isSome = true := by decide +kernel
  obtain ⟨⟨i1, i2, i3, i4⟩, h1⟩ := Option.isSome_iff_exists.mp (h k hk)
  exact ⟨i1, i2, i3, i4, h1⟩
theorem law_dict : mergeK [] [(.inr "a", .str "b"), (.inr "b", .str "q"), (.inr "q", .str "a"), (.inr "z", .str "c"), (.inr "c", .str "z")] = tblK lawT := by
  have e2 : ("b" : Str) = mkS [98] := by decide +kernel
  have e3 : ("q" : Str) = mkS [113] := by decide +kernel
  have e4 : ("z" : Str) = mkS [122] := by decide +kernel
  have e5 : ("c" : Str) = mkS [99] := by decide +kernel
  rw [eA, e2, e3, e4, e5]
  rfl
end Wk
end
section
set_option maxHeartbeats 8000000
/-! The law. -/
namespace Wk
open PySem PySem.Spec PyProof.Rows L2 Cl TL LamX
abbrev nLaw : List Str := ["_law_script", "_law_tape_here", "_law_turn", "_law_some", "_law_again", "_law_net_here", "_law_text", "_law_one", "_law_two", "_law_three", "_law_sign", "_law_found", "_law_below", "_law_kind", "_law_step", "_law_motion", "_law_table", "_law_more", "_law_letter", "_law_others", "_law_shown_two", "_law_wide", "_law_high"]
theorem scLaw : FnScope nLaw ["_law_script"] (defScope sLaw) := ⟨rfl, rfl, rfl, by decide +kernel, rfl, by decide +kernel, by decide +kernel⟩
def spLaw (K : PySem.W.Frag) (T : List (Addr × Str)) : Sp := fun vs H Q _ => ∃ (S : Addr) (cs : List Int), vs = [.ref S] ∧ SqL K H S (cs.map V.int) ∧ cs.length ≤ 1000 ∧ Tabs T H ∧ ∀ H', Q (.bl true) H'
section
variable {P : Program} {w : World} {K : PySem.W.Frag} {mg : Str → Option Value} {base : Heap} {f fTp fWo fMa fDr fKi fPl fCo fN fOv fLa fUn fRe fMs fSm fEn fMi fMu fEq Cn C M : Addr} {Cs : List Addr} {fd fdC fdN : FuncData} {T : List (Addr × Str)}
theorem ok_law (F : FD K "law" "law" sLaw f fd) (B : Bl mg) (FTp : FnR P w K mg base C0 1 fTp (spTape K)) (GTp : Gb K mg "_law_tape" fTp) (FWo : FnR P w K mg base C0 4 fWo spWoven) (GWo : Gb K mg "_law_woven" fWo)
    (FMa : FnR P w K mg base C0 10 fMa (spMade Cn Cs)) (GMa : Gb K mg "_law_made" fMa) (FDr : FnR P w K mg base C0 1 fDr spDraw) (GDr : Gb K mg "_law_draw" fDr) (FKi : FnR P w K mg base C0 1 fKi spKindsL) (GKi : Gb K mg "_law_kinds" fKi)
    (FPl : FnR P w K mg base C0 3 fPl spPlace) (GPl : Gb K mg "_law_place" fPl) (FCo : FnOk P w K mg base C0 1 fCo fdC ["self"] (spCols Cn Cs)) (bC : L2.Binds K fdC ["self"] []) (PC : Ps K Cs "colours" fCo)
    (FN : FnOk P w K mg base C0 1 fN fdN ["self"] (spCarNet Cn Cs)) (bN : L2.Binds K fdN ["self"] []) (PN : Ps K Cs "net" fN) (FOv : KFn P w K mg base 10 fOv 2 ["clear"] (spOver T Cn C Cs)) (GOv : Gb K mg "overlay" fOv)
    (FLa : FnSK P w K mg base 10 fLa ["clear"] (spLay T Cn C Cs)) (GLa : Gb K mg "layered" fLa) (FUn : KFn P w K mg base 10 fUn 3 ["clear"] (spUnc T Cn C Cs)) (GUn : Gb K mg "uncovered" fUn)
    (FRe : FnR P w K mg base C0 9 fRe (spRec Cn C Cs)) (GRe : Gb K mg "recoloured" fRe) (FMs : KFn P w K mg base 10 fMs 2 ["shown", "blank"] (spMsk T Cn C Cs)) (GMs : Gb K mg "masked" fMs)
    (FSm : KFn P w K mg base 10 fSm 3 ["start"] (spSmp T Cn C Cs)) (GSm : Gb K mg "sampled" fSm) (FEn : FnR P w K mg base C0 10 fEn (spEnl T Cn C Cs)) (GEn : Gb K mg "enlarged" fEn)
    (FMi : FnR P w K mg base C0 4 fMi (spMotInit M)) (mkM : Mk K M fMi) (gM : mg "Motion" = some (.ref M)) (FMu : FnR P w K mg base C0 9 fMu (spCarMul Cn M C Cs)) (OMu : ∀ E ∈ Cs, Op2F K E M (PySem.dunder (Operator.info .Mult).2) (PySem.dunderR (Operator.info .Mult).2) fMu)
    (FEq : FnR P w K mg base C0 2 fEq (spCarEq Cn Cs)) (hEq : PySem.W.findIn K (.ref C) "__eq__" = some (some (.ref fEq))) (hEqf : PySem.W.isFn K (.ref fEq) = true) (hNe : PySem.W.findIn K (.ref C) "__ne__" = some (some (.builtin "object.__ne__")))
    (hOb : PySem.W.subIn K (.ref C) (.type "object") = some true) (hC : C ∈ Cs) : FnOk P w K mg base C0 11 f fd ["_law_script"] (spLaw K T) := by
  refine okOf F scLaw (fun vs H Q E h => ?_) fun cdv A outer s H vs Q E hr h => ?_
  · obtain ⟨_, _, rfl, _⟩ := h; rfl
  obtain ⟨S, cs, rfl, hS, hcs, htabs, hQ⟩ := h
  have hr1 : Room 1 (A.deeper (envOfC "law" (defScope sLaw) s.heap.objs.size f cdv)) := hr.mono (by decide)
  have hr2 : Room 2 (A.deeper (envOfC "law" (defScope sLaw) s.heap.objs.size f cdv)) := hr.mono (by decide)
  have hr3 : Room 3 (A.deeper (envOfC "law" (defScope sLaw) s.heap.objs.size f cdv)) := hr.mono (by decide)
  have hr4 : Room 4 (A.deeper (envOfC "law" (defScope sLaw) s.heap.objs.size f cdv)) := hr.mono (by decide)
  have hr5 : Room 5 (A.deeper (envOfC "law" (defScope sLaw) s.heap.objs.size f cdv)) := hr.mono (by decide)
  have hr9 : Room 9 (A.deeper (envOfC "law" (defScope sLaw) s.heap.objs.size f cdv)) := hr.mono (by decide)
  have hu1 : (A.deeper (envOfC "law" (defScope sLaw) s.heap.objs.size f cdv)).units + 1 < cLine := by have := hr.un; omega
  refine ⟨_, pss_cons (ps_set (i := 1) scLaw.nd rfl (Or.inl rfl) (pe_g FTp GTp hr1 rfl (pa_cons (pv 0) pa_nil)))
    (pss_cons (ps_for PassesOwn.never rfl (pi_range1 rfl B.range (pa_cons pe_int pa_nil)) (pg_name (i := 2) scLaw.nd rfl (Or.inl rfl))
    (pss_cons (ps_set (i := 3) scLaw.nd rfl (Or.inl rfl) (pe_lst pa_nil))
    (pss_cons (ps_for PassesOwn.never rfl (pi_range1 rfl B.range (pa_cons pe_int pa_nil)) (pg_name (i := 4) scLaw.nd rfl (Or.inl rfl)) (pss_cons (ps_asg (pe_g FWo GWo hr4 rfl (pa_cons (pv 1) (pa_cons pe_int pa_nil))) (pg_tup rfl (pgs_cons (pg_name (i := 5) scLaw.nd rfl (Or.inl rfl)) (pgs_cons (pg_name (i := 6) scLaw.nd rfl (Or.inl rfl)) pgs_nil))))
    (pss_one (ps_expr (pe_bm PySem.F.plainAttrs_list PySem.F.slot_list_append PySem.F.type_list_append mt_append (pv 3) (pa_cons (pe_g FMa GMa hr rfl (pa_cons (pv 1) (pa_cons (pv 5) (pa_cons (pv 6) pa_nil)))) pa_nil))))))
    (pss_cons (ps_asg (pv 3) (pg_lst rfl (pgs_cons (pg_name (i := 7) scLaw.nd rfl (Or.inl rfl)) (pgs_cons (pg_name (i := 8) scLaw.nd rfl (Or.inl rfl)) (pgs_cons (pg_name (i := 9) scLaw.nd rfl (Or.inl rfl)) pgs_nil)))))
    (pss_cons (ps_set (i := 10) scLaw.nd rfl (Or.inr rfl) (pe_ix ix_list (pe_lst (pa_cons (pe_ix ix_str (pe_p (pv 7) PC FCo bC hr2) pe_int (fun _ _ => rfl)) (pa_cons (pe_ix ix_str (pe_p (pv 8) PC FCo bC hr2) (pe_un un_neg pe_int) (fun _ _ => rfl)) (pa_cons pe_str pa_nil)))) (pe_g FDr GDr hr1 rfl (pa_cons (pv 1) (pa_cons pe_int pa_nil))) (fun _ _ => rfl)))
    (pss_cons (ps_set (i := 11) scLaw.nd rfl (Or.inl rfl) (pe_k FOv GOv hr rfl (pa_cons (pv 7) (pa_cons (pv 8) pa_nil)) (pk_cons (pv 10) pk_nil)))
    (pss_cons (ps_if (pt_cmpR (op_neC FEq hr3 hEq hEqf hNe hOb) (pe_k FOv GOv hr rfl (pa_cons (pv 11) (pa_cons (pv 9) pa_nil)) (pk_cons (pv 10) pk_nil)) (pe_k FOv GOv hr rfl (pa_cons (pv 7) (pa_cons (pe_k FOv GOv hr rfl (pa_cons (pv 8) (pa_cons (pv 9) pa_nil)) (pk_cons (pv 10) pk_nil)) pa_nil)) (pk_cons (pv 10) pk_nil)) (nomark _)) pss_never pss_nil)
    (pss_cons (ps_if (pt_cmpR (op_neC FEq hr3 hEq hEqf hNe hOb) (pe_sk FLa GLa hr rfl (pa_cons (pv 7) (pa_cons (pv 8) (pa_cons (pv 9) pa_nil))) (pk_cons (pv 10) pk_nil)) (pe_k FOv GOv hr rfl (pa_cons (pv 11) (pa_cons (pv 9) pa_nil)) (pk_cons (pv 10) pk_nil)) (nomark _)) pss_never pss_nil)
    (pss_cons (ps_set (i := 12) scLaw.nd rfl (Or.inl rfl) (pe_k FUn GUn hr rfl (pa_cons (pv 11) (pa_cons (pv 7) (pa_cons (pe_p (pv 8) PN FN bN hr2) pa_nil))) (pk_cons (pv 10) pk_nil)))
    (pss_cons (ps_if (PW.pt (pw_or (pt_cmpR op_isN (pv 12) pe_non (nomark _)) (pw_or1 (pt_cmpR (op_neC FEq hr3 hEq hEqf hNe hOb) (pe_k FOv GOv hr rfl (pa_cons (pv 7) (pa_cons (pv 12) pa_nil)) (pk_cons (pv 10) pk_nil)) (pv 11) (nomark _))))) pss_never pss_nil)
    (pss_cons (ps_par (i := 13) (j := 14) rfl scLaw.nd rfl rfl (by decide) rfl rfl (pa_cons (pe_ix ix_list (pe_g0 FKi GKi hr1 rfl) (pe_g FDr GDr hr1 rfl (pa_cons (pv 1) (pa_cons pe_int pa_nil))) (fun _ _ => rfl)) (pa_cons (pe_g FPl GPl hr3 rfl (pa_cons (pv 1) pa_nil)) pa_nil)) rfl)
    (pss_cons (ps_set (i := 15) scLaw.nd rfl (Or.inl rfl) (StX.pe_makeR mkM FMi hr5 rfl gM (passes0 (E := EN)) (pa_cons (pv 13) (pa_cons (pv 14) pa_nil))))
    (pss_cons (ps_if (pt_cmpR (op_neC FEq hr3 hEq hEqf hNe hOb) (pe_op (op_mulC FMu hr9 OMu) (pv 11) (pv 15)) (pe_k FOv GOv hr rfl (pa_cons (pe_op (op_mulC FMu hr9 OMu) (pv 7) (pv 15)) (pa_cons (pe_op (op_mulC FMu hr9 OMu) (pv 8) (pv 15)) pa_nil)) (pk_cons (pv 10) pk_nil)) (nomark _)) pss_never pss_nil)
    (pss_cons (ps_set (i := 16) scLaw.nd rfl (Or.inl rfl) (pe_disp (pps_cons pe_str pe_str (pps_cons pe_str pe_str (pps_cons pe_str pe_str (pps_cons pe_str pe_str (pps_cons pe_str pe_str pps_nil))))) rfl rfl (by simp) (by decide)))
    (pss_cons (ps_set (i := 17) scLaw.nd rfl (Or.inl rfl) (pe_k FOv GOv hr rfl (pa_cons (pe_g FRe GRe hr9 rfl (pa_cons (pv 7) (pa_cons (pv 16) pa_nil))) (pa_cons (pe_g FRe GRe hr9 rfl (pa_cons (pv 8) (pa_cons (pv 16) pa_nil))) pa_nil)) (pk_cons (pe_dget2 hu1 (pv 16) (pv 10) (pv 10) ⟨rfl, rfl, rfl, rfl⟩) pk_nil)))
    (pss_cons (ps_if (pt_cmpR (op_neC FEq hr3 hEq hEqf hNe hOb) (pe_g FRe GRe hr9 rfl (pa_cons (pv 11) (pa_cons (pv 16) pa_nil))) (pv 17) (nomark _)) pss_never pss_nil)
    (pss_cons (ps_set (i := 19) scLaw.nd rfl (Or.inl rfl) (pe_join pe_str (pe_lc (own := [("_law_letter", 18)]) (g := gName 18) rfl scLaw.nd (pi_str (pe_p (pv 7) PC FCo bC hr2)) (blkOk_by (N := nLaw) (sc := defScope sLaw) (by decide +kernel))
      (fun _ _ _ _ _ => (pg_name (i := 18) scLaw.nd rfl (Or.inl rfl))) (fun _ _ _ _ _ => pts_one (pt_cmpR op_ne (pv 18) (pv 10) (nomark _))) (fun _ _ _ _ _ => pv 18))))
    (pss_cons (ps_set (i := 20) scLaw.nd rfl (Or.inl rfl) (pe_k FMs GMs hr rfl (pa_cons (pv 8) (pa_cons (pv 7) pa_nil)) (pk_cons (pv 10) (pk_cons pe_str pk_nil))))
    (pss_cons (ps_if (pt_cmpR (op_neC FEq hr3 hEq hEqf hNe hOb) (pe_k FOv GOv hr rfl (pa_cons (pe_k FMs GMs hr rfl (pa_cons (pv 7) (pa_cons (pv 7) pa_nil)) (pk_cons (pv 19) (pk_cons pe_str pk_nil))) (pa_cons (pv 20) pa_nil)) (pk_cons pe_str pk_nil)) (pv 11) (nomark _)) pss_never pss_nil)
    (pss_cons (ps_par (i := 21) (j := 22) rfl scLaw.nd rfl rfl (by decide) rfl rfl (pa_cons (pe_op op_add pe_int (pe_g FDr GDr hr1 rfl (pa_cons (pv 1) (pa_cons pe_int pa_nil)))) (pa_cons (pe_op op_add pe_int (pe_g FDr GDr hr1 rfl (pa_cons (pv 1) (pa_cons pe_int pa_nil)))) pa_nil)) rfl)
    (pss_cons (ps_if (pt_cmpR (op_neC FEq hr3 hEq hEqf hNe hOb) (pe_k FSm GSm hr rfl (pa_cons (pv 11) (pa_cons (pv 21) (pa_cons (pv 22) pa_nil))) (pk_cons (pv 14) pk_nil)) (pe_k FOv GOv hr rfl (pa_cons (pe_k FSm GSm hr rfl (pa_cons (pv 7) (pa_cons (pv 21) (pa_cons (pv 22) pa_nil))) (pk_cons (pv 14) pk_nil)) (pa_cons (pe_k FSm GSm hr rfl (pa_cons (pv 8) (pa_cons (pv 21) (pa_cons (pv 22) pa_nil))) (pk_cons (pv 14) pk_nil)) pa_nil)) (pk_cons (pv 10) pk_nil)) (nomark _)) pss_never pss_nil)
    (pss_one (ps_if (pt_cmpR (op_neC FEq hr3 hEq hEqf hNe hOb) (pe_g FEn GEn hr rfl (pa_cons (pv 11) (pa_cons (pv 21) (pa_cons pe_int pa_nil)))) (pe_k FOv GOv hr rfl (pa_cons (pe_g FEn GEn hr rfl (pa_cons (pv 7) (pa_cons (pv 21) (pa_cons pe_int pa_nil)))) (pa_cons (pe_g FEn GEn hr rfl (pa_cons (pv 8) (pa_cons (pv 21) (pa_cons pe_int pa_nil)))) pa_nil)) (pk_cons (pv 10) pk_nil)) (nomark _)) pss_never pss_nil)))))))))))))))))))))))
    (pss_one (ps_ret pe_bl))), ?_⟩
  refine ⟨_, rfl, S, cs, rfl, hS, hcs, fun D L H1 e1 tp1 => ?_⟩
  have ls1 : LS T D L H1 := ⟨tp1, htabs.ext e1⟩
  refine ⟨6, rfl, by decide, by decide, ?_⟩
  refine for_rng (fun _ σ H => σ.length = 23 ∧ σ[1]? = some (some (.ref D)) ∧ LS T D L H) ⟨rfl, rfl, ls1⟩ ?_ (fun σ H h => hQ H)
  rintro i σ H2 _ ⟨h23, hσ1, ls2⟩
  obtain ⟨x0, x1, x2, x3, x4, x5, x6, x7, x8, x9, x10, x11, x12, x13, x14, x15, x16, x17, x18, x19, x20, x21, x22, rfl⟩ := len23 h23
  obtain rfl : x1 = some (.ref D) := by simpa using hσ1
  clear hσ1 h23 tp1 e1 ls1 H1
  simp only [gName, List.set_cons_succ, List.set_cons_zero]
  refine ⟨Nat.zero_le _, fun SL nSL => ?_⟩
  have ls3 := ls2.e (Ex.upd (o := .lst []) nSL)
  obtain ⟨n1, n2⟩ := ls2.tape.fresh nSL
  have hSL0 : upd H2 SL (.lst []) SL = some (.lst []) := upd_same
  generalize upd H2 SL (.lst []) = H3 at ls3 hSL0
  clear nSL ls2 H2
  simp only [gName, List.set_cons_succ, List.set_cons_zero]
  refine ⟨3, rfl, by decide, by decide, ?_⟩
  refine for_rng (fun j σ H => σ.length = 23 ∧ σ[1]? = some (some (.ref D)) ∧ σ[3]? = some (some (.ref SL)) ∧ LS T D L H ∧ ∃ vs, vs.length = j ∧ H SL = some (.lst vs) ∧ ∀ v ∈ vs, Car8 Cn Cs H v) ⟨rfl, rfl, rfl, ls3, [], rfl, hSL0, fun v h => by cases h⟩ ?_ ?_
  · clear ls3 hSL0 H3
    rintro j σ H2 hj ⟨h23, hσ1, hσ3, ls2, vs, hvl, hSL, hvs⟩
    obtain ⟨x0, x1, x2, x3, x4, x5, x6, x7, x8, x9, x10, x11, x12, x13, x14, x15, x16, x17, x18, x19, x20, x21, x22, rfl⟩ := len23 h23
    obtain rfl : x1 = some (.ref D) := by simpa using hσ1
    obtain rfl : x3 = some (.ref SL) := by simpa using hσ3
    simp only [gName, List.set_cons_succ, List.set_cons_zero]
    refine ⟨_, rfl, D, L, rfl, ls2.tape, fun z l a b c H3 e3 t3 hw h8 hlt => ?_⟩
    obtain ⟨t, hz, hn, hl⟩ := hw
    refine ⟨z, _, rfl, SqT.of hz, rfl, _, _, rfl, _, _, rfl, rfl, ?_⟩
    simp only [gName, List.set_cons_succ, List.set_cons_zero]
    have hSL3 := e3 _ _ n1 hSL
    refine ⟨_, rfl, .inl ⟨rfl, _, SqL.of hSL3⟩, _, rfl, _, rfl, _, rfl, D, L, t, a, b, c, l, rfl, t3, hn, h8, hl, hlt, fun z g a' b' c' H4 e4 t4 cv hz8 hlt2 => ?_⟩
    have hSL4 := e4 _ _ n1 hSL3
    have ls4 := (ls2.b e3 t3).b e4 t4
    have i4 := (ls2.i e3).trans ((ls2.b e3 t3).i e4)
    have i5 : ExtI H4 (upd H4 SL (.lst (vs ++ [z]))) := extI_lst hSL4
    refine ⟨SL, vs, z, rfl, rfl, hSL4, by rw [hvl]; show j < 2 ^ 24; omega, rfl, rfl, rfl, ⟨ls4.tape.upd n1 n2, Wk.Tabs.exB ls4.tabs hSL4 ExB.put⟩, vs ++ [z], by simp [hvl], upd_same, fun v hv => ?_⟩
    rcases List.mem_append.mp hv with h | h
    · exact (hvs v h).i (i4.trans i5)
    · obtain rfl := List.mem_singleton.mp h
      exact ⟨g, a', b', c', cv.extI i5, hz8, hlt2⟩
  clear ls3 hSL0 H3
  rintro σ H2 ⟨h23, hσ1, hσ3, ls2, vs, hvl, hSL, hvs⟩
  obtain ⟨x0, x1, x2, x3, x4, x5, x6, x7, x8, x9, x10, x11, x12, x13, x14, x15, x16, x17, x18, x19, x20, x21, x22, rfl⟩ := len23 h23
  obtain rfl : x1 = some (.ref D) := by simpa using hσ1
  obtain rfl : x3 = some (.ref SL) := by simpa using hσ3
  obtain ⟨z1, z2, z3, rfl⟩ : ∃ z1 z2 z3, vs = [z1, z2, z3] := match vs, hvl with | [z1, z2, z3], _ => ⟨_, _, _, rfl⟩
  obtain ⟨g1, a1, b1, c1, cv1, hs1, hl1⟩ := hvs z1 (by simp)
  obtain ⟨g2, a2, b2, c2, cv2, hs2, hl2⟩ := hvs z2 (by simp)
  obtain ⟨g3, a3, b3, c3, cv3, hs3, hl3⟩ := hvs z3 (by simp)
  refine ⟨_, rfl, SL, _, rfl, SqL.of hSL, rfl, _, _, rfl, _, _, rfl, _, _, rfl, rfl, ?_⟩
  simp only [gName, List.set_cons_succ, List.set_cons_zero]
  clear hvs hSL hvl h23 hσ1 hσ3 n1 n2
  obtain ⟨p, q, r, okA, sA, szA, A1, A2⟩ := inter_use cv1.can cv2.can (by omega) (by omega)
  obtain ⟨p', q', r', okN, hinN, szN⟩ := inter_net okA cv3.can.ok
  have N1 : PerN p' q' r' g1 := fun u v h => A1 u v ((hinN u v).mp h).1
  have N2 : PerN p' q' r' g2 := fun u v h => A2 u v ((hinN u v).mp h).1
  have N3 : PerN p' q' r' g3 := fun u v h => (cv3.can.per u v).mp ((hinN u v).mp h).2
  have pos1 : 0 ≤ a1 * c1 := Int.mul_nonneg (by have := cv1.can.ok.a; omega) (by have := cv1.can.ok.c; omega)
  have pos2 : 0 ≤ a2 * c2 := Int.mul_nonneg (by have := cv2.can.ok.a; omega) (by have := cv2.can.ok.c; omega)
  have pos3 : 0 ≤ a3 * c3 := Int.mul_nonneg (by have := cv3.can.ok.a; omega) (by have := cv3.can.ok.c; omega)
  have sA64 : p * r ≤ 64 := Int.le_trans sA (Int.mul_le_mul hs1 hs2 pos2 (by decide))
  have hz : p' * r' ≤ 1000 := by
    have : (p * r) * (a3 * c3) ≤ 64 * 8 := Int.mul_le_mul sA64 hs3 pos3 (by decide)
    omega
  -- the sign
  have lt1 : ∀ n, n ∈ cols (txt a1 c1 g1) → Ltr n := fun n h => by
    obtain ⟨x, y, rfl⟩ := txt_val (cols_mem.mp h).2
    exact hl1 x y
  have lt2 : ∀ n, n ∈ cols (txt a2 c2 g2) → Ltr n := fun n h => by
    obtain ⟨x, y, rfl⟩ := txt_val (cols_mem.mp h).2
    exact hl2 x y
  have ne1 : cols (txt a1 c1 g1) ≠ [] := List.ne_nil_of_mem (cols_mem.mpr ⟨(hl1 0 0).let, g_in_txt cv1.can 0 0⟩)
  have ne2 : cols (txt a2 c2 g2) ≠ [] := List.ne_nil_of_mem (cols_mem.mpr ⟨(hl2 0 0).let, g_in_txt cv2.can 0 0⟩)
  have cl : ∀ t : List Nat, (cols t).length ≤ 26 := fun t => by
    unfold cols
    have := List.length_filter_le (fun n => decide (n ∈ t)) (List.range' 97 26)
    rw [List.length_range'] at this
    exact this
  obtain ⟨m1, hm1, at1⟩ := atI_head ne1
  obtain ⟨m2, hm2, at2⟩ := atI_end ne2
  obtain ⟨o1, C1, dx1, fs1, rfl, hC1, ho1⟩ := cv1.obj
  obtain ⟨o2, C2, dx2, fs2, rfl, hC2, ho2⟩ := cv2.obj
  obtain ⟨o3, C3, dx3, fs3, rfl, hC3, ho3⟩ := cv3.obj
  have big : (2 : Nat) ^ 24 = 16777216 := by decide
  refine ⟨_, rfl, o1, C1, dx1, _, rfl, hC1, ho1, _, g1, a1, b1, c1, rfl, cv1, fun H3 e3 => ⟨_, _, m1, rfl, rfl, by rw [mkS_len]; have := cl (txt a1 c1 g1); show _ ≤ 2 ^ 24; omega, by rw [mkS_list]; exact at1, ?_⟩⟩
  refine ⟨_, rfl, o2, C2, dx2, _, rfl, hC2, e3 _ _ ho2, _, g2, a2, b2, c2, rfl, cv2.extI (.ofE e3), fun H4 e4 => ⟨_, rfl, _, _, m2, rfl, rfl, by rw [mkS_len]; have := cl (txt a2 c2 g2); show _ ≤ 2 ^ 24; omega, by rw [mkS_list]; exact at2, ?_⟩⟩
  refine ⟨by show 3 ≤ sizeLine; decide, fun p5 np5 => ?_⟩
  have ls4 := (ls2.e e3).e e4
  have ls5 := ls4.e (Ex.upd (o := .lst [.str (mkS [m1]), .str (mkS [m2]), .str "a"]) np5)
  refine ⟨_, rfl, D, L, _, rfl, ls5.tape, by decide, by decide, fun r3 H5 x3 y3 e5 t5 => ?_⟩
  have hp5 : H5 p5 = some (.lst [.str (mkS [m1]), .str (mkS [m2]), .str "a"]) := e5 _ _ (ls4.tape.fresh np5).1 upd_same
  obtain ⟨v, hv, hat⟩ := atI3 (x := V.str (mkS [m1])) (y := V.str (mkS [m2])) (z := V.str "a") x3 y3
  obtain ⟨k, rfl, hk⟩ : ∃ k, v = .str (mkS [k]) ∧ Ltr k := by
    rcases hv with rfl | rfl | rfl
    · exact ⟨m1, rfl, lt1 m1 hm1⟩
    · exact ⟨m2, rfl, lt2 m2 hm2⟩
    · exact ⟨97, by rw [eA], .inl rfl⟩
  refine ⟨p5, _, _, _, rfl, rfl, SqL.of hp5, hat, ?_⟩
  simp only [gName, List.set_cons_succ, List.set_cons_zero]
  have ls6 := ls5.b e5 t5
  have i6 : ExtI H2 H5 := (ExtI.ofE (e3.trans (e4.trans (Ex.upd np5)))).trans (ls5.i e5)
  replace cv1 := cv1.extI i6
  replace cv2 := cv2.extI i6
  replace cv3 := cv3.extI i6
  clear hat hv hp5 i6 e5 t5 ls5 ls4 e4 e3 ls2 np5 x3 y3 ho1 ho2 ho3 fs1 fs2 fs3 dx1 dx2 dx3 at1 at2 hm1 hm2 ne1 ne2
  -- found
  refine ⟨_, rfl, _, rfl, _, rfl, rfl, rfl, ov_use hk.let ls6.tabs cv1 cv2 okA szA A1 A2 fun zf H6 af bf cf e6 tb6 cvf => ?_⟩
  simp only [gName, List.set_cons_succ, List.set_cons_zero]
  replace ls6 := ls6.n e6 tb6
  replace cv1 := cv1.extI (.ofN e6)
  replace cv2 := cv2.extI (.ofN e6)
  replace cv3 := cv3.extI (.ofN e6)
  clear e6 tb6
  have NF : PerN p' q' r' (ovG g1 g2 k) := perN_ov N1 N2
  have szA' : p * r ≤ 1000 := szA
  -- overlay(found, three) and overlay(one, overlay(two, three))
  refine ⟨_, rfl, _, rfl, _, rfl, rfl, rfl, ov_use hk.let ls6.tabs (cvf.up hC) cv3 okN hz NF N3 fun u1 H7 a7 b7 c7 e7 tb7 cu1 => ?_⟩
  refine ⟨_, rfl, _, rfl, _, rfl, _, rfl, rfl, rfl, ov_use hk.let tb7 (cv2.extI (.ofN e7)) (cv3.extI (.ofN e7)) okN hz N2 N3 fun u2 H8 a8 b8 c8 e8 tb8 cu2 => ?_⟩
  refine ⟨_, rfl, rfl, rfl, ov_use hk.let tb8 (cv1.extI (.ofN (e7.trans e8))) (cu2.up hC) okN hz N1 (perN_ov N2 N3) fun u3 H9 a9 b9 c9 e9 tb9 cu3 => ?_⟩
  refine ne_no hC (cu1.extI (.ofN (e8.trans e9))) cu3 (ov_assoc g1 g2 g3 k) ?_
  refine ⟨false, rfl, iteF ?_⟩
  have e79 := (e7.trans e8).trans e9
  replace ls6 := ls6.n e79 tb9
  replace cv1 := cv1.extI (.ofN e79)
  replace cv2 := cv2.extI (.ofN e79)
  replace cv3 := cv3.extI (.ofN e79)
  replace cvf := cvf.extI (.ofN e79)
  clear e79 e7 e8 e9 tb7 tb8 tb9 cu1 cu2 cu3 H6 H7 H8
  -- layered
  refine ⟨_, rfl, _, rfl, _, rfl, _, rfl, lay_use hk.let ls6.tabs cv1 cv2 cv3 okN hz N1 N2 N3 fun u1 H7 a7 b7 c7 e7 tb7 cu1 => ?_⟩
  refine ⟨_, rfl, _, rfl, _, rfl, rfl, rfl, ov_use hk.let tb7 ((cvf.up hC).extI (.ofN e7)) (cv3.extI (.ofN e7)) okN hz NF N3 fun u2 H8 a8 b8 c8 e8 tb8 cu2 => ?_⟩
  refine ne_no hC (cu1.extI (.ofN e8)) cu2 (lay_ov g1 g2 g3 _ _ _ k) ?_
  refine ⟨false, rfl, iteF ?_⟩
  have e79 := e7.trans e8
  replace ls6 := ls6.n e79 tb8
  replace cv1 := cv1.extI (.ofN e79)
  replace cv2 := cv2.extI (.ofN e79)
  replace cvf := cvf.extI (.ofN e79)
  clear e79 e7 e8 tb7 tb8 cu1 cu2 H9 H7 cv3 N3
  -- uncovered
  obtain ⟨o2', C2', dx2, fs2, e2', hC2', ho2⟩ := cv2.obj
  cases e2'
  refine ⟨_, rfl, _, rfl, _, rfl, o2, C2', dx2, _, rfl, hC2', ho2, _, g2, a2, b2, c2, rfl, cv2, fun nv Nv => ⟨_, rfl, rfl, rfl, unc_use hk.let ls6.tabs (cvf.up hC) cv1 cv2 Nv okN hz N1 N2 fun zb H7 gb a7 b7 c7 e7 tb7 cb Nb hgb => ?_⟩⟩
  simp only [gName, List.set_cons_succ, List.set_cons_zero]
  replace ls6 := ls6.n e7 tb7
  replace cv1 := cv1.extI (.ofN e7)
  replace cv2 := cv2.extI (.ofN e7)
  replace cvf := cvf.extI (.ofN e7)
  clear e7 tb7 ho2 dx2 fs2 Nv H8
  obtain ⟨ob, Cb, dxb, fsb, rfl, _, _⟩ := cb.obj
  refine ⟨_, rfl, rfl, _, rfl, iteF ?_⟩
  refine ⟨_, rfl, _, rfl, _, rfl, rfl, rfl, ov_use hk.let ls6.tabs cv1 (cb.up hC) okN hz N1 Nb fun u1 H8 a8 b8 c8 e8 tb8 cu1 => ?_⟩
  refine ⟨_, rfl, ne_no hC cu1 (cvf.extI (.ofN e8)) (ov_same hgb) ?_⟩
  refine ⟨false, rfl, iteF ?_⟩
  replace ls6 := ls6.n e8 tb8
  replace cv1 := cv1.extI (.ofN e8)
  replace cv2 := cv2.extI (.ofN e8)
  replace cvf := cvf.extI (.ofN e8)
  clear e8 tb8 cu1 cb
  -- kind and step
  refine ⟨rfl, fun pk H9 e9 hpk => ?_⟩
  have ls9 := ls6.e e9
  refine ⟨_, rfl, D, L, _, rfl, ls9.tape, by decide, by decide, fun r4 H10 x4 y4 e10 t10 => ?_⟩
  have hpkD : pk ≠ D := fun z => by
    obtain ⟨cs', i', p'', s', q1, q2, q3⟩ := ls9.tape
    rw [z, q2] at hpk
    simp [kindsL] at hpk
  have hpk2 := e10 _ _ hpkD hpk
  obtain ⟨kk, hkk⟩ : ∃ kk, kindsL[r4.toNat]? = some kk := ⟨_, List.getElem?_eq_getElem (by show r4.toNat < 8; omega)⟩
  have hat := atI_nat (xs := kindsL.map V.str) (j := r4.toNat) (v := .str kk) (by rw [List.getElem?_map, hkk]; rfl)
  rw [Int.toNat_of_nonneg x4] at hat
  have ls10 := ls9.b e10 t10
  refine ⟨pk, _, _, _, rfl, rfl, SqL.of hpk2, hat, ?_⟩
  refine ⟨_, rfl, D, L, rfl, ls10.tape, fun ts sx sy H11 e11 t11 hts => ⟨_, _, rfl, ?_⟩⟩
  simp only [gName, List.set_cons_succ, List.set_cons_zero]
  have i11 := ((ExtI.ofE e9).trans (ls9.i e10)).trans (ls10.i e11)
  replace ls6 := ls10.b e11 t11
  replace cv1 := cv1.extI i11
  replace cv2 := cv2.extI i11
  replace cvf := cvf.extI i11
  obtain ⟨i1, i2, i3, i4, lk1⟩ := kinds_mat kk (List.mem_of_getElem? hkk)
  obtain ⟨j1, j2, j3, j4, lk2, hB⟩ := mats_back lk1
  clear i11 e9 e10 e11 t10 t11 ls9 ls10 hat hpk hpk2 hpkD hkk H9 H10
  -- the motion
  refine ⟨_, rfl, _, rfl, ?_⟩
  intro xm dxm nxm ndm nem
  refine ⟨xm, dxm, ts, kk, (i1, i2, i3, i4), sx, sy, rfl, lk1, upd_same, made_ext nxm ndm (fun b u _ h => h) _ _ hts, fun H9 e9 hxm => ⟨rfl, ?_⟩⟩
  simp only [gName, List.set_cons_succ, List.set_cons_zero]
  have e10 := made_ext nxm ndm e9
  replace hts := e10 _ _ hts
  have mv : MotV M H9 (.ref xm) kk sx sy := ⟨xm, dxm, ts, rfl, hxm, hts⟩
  replace ls6 := ls6.e e10
  replace cv1 := cv1.extI (.ofE e10)
  replace cv2 := cv2.extI (.ofE e10)
  replace cvf := cvf.extI (.ofE e10)
  clear e9 e10 hxm nxm ndm nem
  refine ⟨_, rfl, _, rfl, mul_use (cvf.up hC) mv lk1 lk2 hB fun u1 H10 a7 b7 c7 e10 cu1 _ => ?_⟩
  refine ⟨_, rfl, _, rfl, mul_use (cv1.extI (.ofE e10)) (mv.extI (.ofE e10)) lk1 lk2 hB fun u2 H12 a8 b8 c8 e12 cu2 sz2 => ?_⟩
  have e12' := e10.trans e12
  refine ⟨_, rfl, _, rfl, mul_use (cv2.extI (.ofE e12')) (mv.extI (.ofE e12')) lk1 lk2 hB fun u3 H13 a9 b9 c9 e13 cu3 sz3 => ?_⟩
  obtain ⟨pm, qm, rm, okM, _, szM, M1, M2⟩ := inter_use cu2.can cu3.can (by omega) (by omega)
  have e13' := e12'.trans e13
  refine ⟨_, rfl, rfl, rfl, ov_use hk.let (ls6.tabs.ext e13') ((cu2.up hC).extI (.ofE e13)) (cu3.up hC) okM szM M1 M2 fun u4 H14 a10 b10 c10 e14 tb14 cu4 => ?_⟩
  have e14' := (Ex.n e13').trans e14
  refine ne_no hC (cu1.extI (.ofN ((Ex.n (e12.trans e13)).trans e14))) cu4 (fun _ _ => rfl) ?_
  refine ⟨false, rfl, iteF ?_⟩
  replace hts := e14' _ _ hts (fun _ z => by cases z)
  replace ls6 := ls6.n e14' tb14
  replace cv1 := cv1.extI (.ofN e14')
  replace cv2 := cv2.extI (.ofN e14')
  replace cvf := cvf.extI (.ofN e14')
  clear e10 e12 e12' e13 e13' e14 e14' tb14 cu1 cu2 cu3 cu4 mv H9 H10 H12 H13 okM szM M1 M2 sz2 sz3
  -- the table
  intro d nd
  refine ⟨upd_same, [(.inr "a", .str "b"), (.inr "b", .str "q"), (.inr "q", .str "a"), (.inr "z", .str "c"), (.inr "c", .str "z")], rfl, by decide, ?_⟩
  rw [law_dict, upd_upd]
  simp only [gName, List.set_cons_succ, List.set_cons_zero]
  have ed := Ex.upd (o := .dK (tblK lawT)) nd
  have hd : upd H14 d (.dK (tblK lawT)) d = some (.dK (tblK lawT)) := upd_same
  replace hts := ed _ _ hts
  replace ls6 := ls6.e ed
  replace cv1 := cv1.extI (.ofE ed)
  replace cv2 := cv2.extI (.ofE ed)
  replace cvf := cvf.extI (.ofE ed)
  generalize upd H14 d (.dK (tblK lawT)) = H9 at hd hts ls6 cv1 cv2 cvf
  clear ed nd H14
  have tl : lawT.length ≤ 1000 := by decide
  have tL : ∀ p ∈ lawT, Letter p.1 ∧ Letter p.2 := by
    intro p hp
    simp only [lawT, List.mem_cons, List.not_mem_nil, or_false] at hp
    rcases hp with rfl | rfl | rfl | rfl | rfl <;> exact ⟨⟨by decide, by decide⟩, ⟨by decide, by decide⟩⟩
  refine ⟨_, rfl, _, rfl, _, d, lawT, g1, _, _, _, rfl, hd, tl, tL, cv1, fun u1 H10 a7 b7 c7 e10 cu1 => ?_⟩
  refine ⟨_, rfl, _, rfl, _, d, lawT, g2, _, _, _, rfl, e10 _ _ hd, tl, tL, cv2.extI (.ofE e10), fun u2 H12 a8 b8 c8 e12 cu2 => ?_⟩
  have hd12 := e12 _ _ (e10 _ _ hd)
  refine ⟨_, rfl, d, rfl, .inl ⟨_, .inl hd12⟩, _, rfl, _, rfl, _, .inl ⟨_, .inr (mkS [k]), .inl hd12, rfl, rfl⟩, ?_⟩
  have ev : (valV (tblK lawT) (.inr (mkS [k]))).getD (.str (mkS [k])) = .str (mkS [app lawT k]) := by
    rw [tbl_val]
    unfold app
    cases lawT.lookup k <;> rfl
  rw [ev]
  refine ⟨rfl, rfl, ov_use (app_let tL hk.let) (ls6.tabs.ext (e10.trans e12)) ((cu1.up hC).extI (.ofE e12)) (cu2.up hC) okN hz (perN_rec N1) (perN_rec N2) fun u3 H13 a9 b9 c9 e13 tb13 cu3 => ?_⟩
  simp only [gName, List.set_cons_succ, List.set_cons_zero]
  have e14 := (Ex.n (e10.trans e12)).trans e13
  replace ls6 := ls6.n e14 tb13
  replace cv1 := cv1.extI (.ofN e14)
  replace cv2 := cv2.extI (.ofN e14)
  replace cvf := cvf.extI (.ofN e14)
  replace hts := e14 _ _ hts (fun _ z => by cases z)
  replace hd := e14 _ _ hd (fun _ z => by cases z)
  clear e10 e12 e13 e14 tb13 cu1 cu2 ev hd12 H9 H10 H12
  refine ⟨_, rfl, _, rfl, _, d, lawT, ovG g1 g2 k, _, _, _, rfl, hd, tl, tL, cvf.up hC, fun u4 H9 a10 b10 c10 e9 cu4 => ?_⟩
  refine ⟨_, rfl, ne_no hC cu4 (cu3.extI (.ofE e9)) (rec_ov g1 g2 k) ?_⟩
  refine ⟨false, rfl, iteF ?_⟩
  replace ls6 := ls6.e e9
  replace cv1 := cv1.extI (.ofE e9)
  replace cv2 := cv2.extI (.ofE e9)
  replace cvf := cvf.extI (.ofE e9)
  replace hts := e9 _ _ hts
  clear e9 cu3 cu4 hd tl tL
  -- the others
  obtain ⟨o1', C1', dx1, fs1, e1', hC1', ho1⟩ := cv1.obj
  cases e1'
  refine ⟨⟨_, rfl⟩, _, rfl, o1, C1', dx1, _, rfl, hC1', ho1, _, g1, a1, b1, c1, rfl, cv1, fun H10 e10 => ⟨_, rfl, fun D5 hD5 => ?_⟩⟩
  refine lc_by (R := fun j o _ => ∃ n, (cols (txt a1 c1 g1))[j]? = some n ∧ o = if (decide (n ≠ k)) = true then some (.str (mkS [n])) else none) walk_str hD5 (fun i v H12 hi hv pp => ?_) (fun H12 pp => ?_)
  · obtain ⟨n, hn, rfl⟩ := hv
    have hmon : MonR (fun j o (_ : Hp) => ∃ n, (cols (txt a1 c1 g1))[j]? = some n ∧ o = if (decide (n ≠ k)) = true then some (V.str (mkS [n])) else none) := fun _ _ _ _ _ r => r
    refine ⟨rfl, _, rfl, _, rfl, rfl, _, rfl, ?_⟩
    by_cases hnk : n = k
    · subst hnk
      rw [decide_eq_true rfl]
      exact iteF (pp.no hmon (Ex.refl _) ⟨n, hn, by simp⟩)
    · rw [decide_eq_false (fun z => hnk (by
        injection z with z
        simpa using mkS_inj z))]
      refine iteT ⟨_, rfl, pp.yes hmon hD5 (Ex.refl _) ⟨n, hn, by rw [if_pos (by simpa using hnk)]⟩ ?_⟩
      have := cl (txt a1 c1 g1)
      show i < 2 ^ 24
      omega
  obtain ⟨e12, outs, hol, hD6, ho⟩ := pp
  have hout := outs_if (p := fun n => decide (n ≠ k)) (f := fun n => V.str (mkS [n])) hol ho
  rw [hout] at hD6
  have hl26 : ((cols (txt a1 c1 g1)).filter fun n => decide (n ≠ k)).length ≤ 26 := Nat.le_trans (List.length_filter_le ..) (cl _)
  have hk0 : k ∉ (cols (txt a1 c1 g1)).filter fun n => decide (n ≠ k) := fun z => by
    have := (List.mem_filter.mp z).2
    simp at this
  have hkl : ∀ x y, g1 x y ≠ k → g1 x y ∈ (cols (txt a1 c1 g1)).filter fun n => decide (n ≠ k) := fun x y h => List.mem_filter.mpr ⟨cols_mem.mpr ⟨(hl1 x y).let, g_in_txt cv1.can x y⟩, decide_eq_true h⟩
  have hLL : ∀ n ∈ (cols (txt a1 c1 g1)).filter fun n => decide (n ≠ k), Letter n := fun n h => (lt1 n (List.mem_filter.mp h).1).let
  generalize (cols (txt a1 c1 g1)).filter (fun n => decide (n ≠ k)) = lo at hD6 hl26 hk0 hkl hLL
  have hD6' : H12 D5 = some (.lst ((lo.map fun n => mkS [n]).map V.str)) := by rw [hD6, List.map_map]; rfl
  refine ⟨_, D5, _, rfl, rfl, .inl (SqL.of hD6'), join_ok (by omega), ?_⟩
  rw [join_signs]
  simp only [gName, List.set_cons_succ, List.set_cons_zero]
  have e13 := e10.trans e12
  replace ls6 := ls6.e e13
  replace cv1 := cv1.extI (.ofE e13)
  replace cv2 := cv2.extI (.ofE e13)
  replace cvf := cvf.extI (.ofE e13)
  replace hts := e13 _ _ hts
  clear e13 e10 e12 hD6 hD6' hD5 ho1 hout ho hol outs
  -- masked
  refine ⟨_, rfl, _, rfl, _, rfl, rfl, rfl, msk_use (l := [k]) (by simp) (fun n h => by
    obtain rfl := List.mem_singleton.mp h
    exact hk.let) ls6.tabs cv2 cv1 okA szA' A2 A1 fun u1 H13 a7 b7 c7 e13 tb13 cu1 => ?_⟩
  simp only [gName, List.set_cons_succ, List.set_cons_zero]
  refine ⟨_, rfl, _, rfl, _, rfl, rfl, rfl, msk_use hl26 hLL tb13 (cv1.extI (.ofN e13)) (cv1.extI (.ofN e13)) okA szA' A1 A1 fun u2 H14 a8 b8 c8 e14 tb14 cu2 => ?_⟩
  refine ⟨_, rfl, rfl, rfl, ov_useY tb14 (cu2.up hC) ((cu1.up hC).extI (.ofN e14)) okA szA' (perN_msk A1 A1) (perN_msk A2 A1) fun u3 H15 a9 b9 c9 e15 tb15 cu3 => ?_⟩
  have e16 := (e13.trans e14).trans e15
  refine ⟨_, rfl, ne_no hC cu3 (cvf.extI (.ofN e16)) (msk_ov hk0 hkl fun x y => (hl1 x y).noy) ?_⟩
  refine ⟨false, rfl, iteF ?_⟩
  replace ls6 := ls6.n e16 tb15
  replace cv1 := cv1.extI (.ofN e16)
  replace cv2 := cv2.extI (.ofN e16)
  replace cvf := cvf.extI (.ofN e16)
  replace hts := e16 _ _ hts (fun _ z => by cases z)
  clear e13 e14 e15 e16 tb13 tb14 tb15 cu1 cu2 cu3 hk0 hkl hLL hl26
  -- wide and high
  refine ⟨_, rfl, D, L, _, rfl, ls6.tape, by decide, by decide, fun r5 H16 x5' y5 e16 t16 => ⟨_, _, rfl, rfl, ?_⟩⟩
  have ls7 := ls6.b e16 t16
  refine ⟨_, rfl, D, L, _, rfl, t16, by decide, by decide, fun r6 H17 x6' y6 e17 t17 => ⟨_, _, rfl, rfl, _, _, rfl, ?_⟩⟩
  have i17 := (ls6.i e16).trans (ls7.i e17)
  simp only [gName, List.set_cons_succ, List.set_cons_zero]
  replace ls6 := ls7.b e17 t17
  replace cv1 := cv1.extI i17
  replace cv2 := cv2.extI i17
  replace cvf := cvf.extI i17
  replace hts := i17 _ _ hts (.inr ⟨_, rfl⟩)
  clear i17 ls7 e16 e17 t16 t17
  have szF : af * cf ≤ p * r := per_size cvf.can okA (perN_ov A1 A2)
  have posF : 0 ≤ af * cf := Int.mul_nonneg (by have := cvf.can.ok.a; omega) (by have := cvf.can.ok.c; omega)
  have hw16 : (1 + r5) * (1 + r6) ≤ 4 * 4 := Int.mul_le_mul (by omega) (by omega) (by omega) (by decide)
  have hw0 : 0 ≤ (1 + r5) * (1 + r6) := Int.mul_nonneg (by omega) (by omega)
  have smpB : ∀ z : Int, 0 ≤ z → z ≤ 64 → z * ((1 + r5) * (1 + r6)) ≤ 1000000 := fun z h0 h => by
    have : z * ((1 + r5) * (1 + r6)) ≤ 64 * (4 * 4) := Int.mul_le_mul h hw16 hw0 (by decide)
    omega
  refine ⟨_, rfl, _, rfl, _, rfl, _, rfl, rfl, rfl, _, ts, ovG g1 g2 k, _, _, _, 1 + r5, 1 + r6, sx, sy, rfl, ls6.tabs, hts, cvf.up hC, by omega, by omega, by omega, by omega, smpB _ posF (by omega), fun u1 H18 a7 b7 c7 e18 tb18 cu1 => ?_⟩
  refine ⟨_, rfl, _, rfl, _, rfl, _, rfl, rfl, rfl, _, ts, g1, _, _, _, 1 + r5, 1 + r6, sx, sy, rfl, tb18, e18 _ _ hts (fun _ z => by cases z), cv1.extI (.ofN e18), by omega, by omega, by omega, by omega, smpB _ pos1 (by omega), fun u2 H19 a8 b8 c8 e19 tb19 cu2 => ?_⟩
  have e19' := e18.trans e19
  refine ⟨_, rfl, _, rfl, _, rfl, _, rfl, rfl, rfl, _, ts, g2, _, _, _, 1 + r5, 1 + r6, sx, sy, rfl, tb19, e19' _ _ hts (fun _ z => by cases z), cv2.extI (.ofN e19'), by omega, by omega, by omega, by omega, smpB _ pos2 (by omega), fun u3 H20 a9 b9 c9 e20 tb20 cu3 => ?_⟩
  obtain ⟨ps, qs, rs, okS, szS, hinS⟩ := smp_ex (w := 1 + r5) (h := 1 + r6) okA (by omega) (by omega)
  refine ⟨_, rfl, rfl, rfl, ov_use hk.let tb20 ((cu2.up hC).extI (.ofN e20)) (cu3.up hC) okS (by omega) (smp_per A1 hinS) (smp_per A2 hinS) fun u4 H21 a10 b10 c10 e21 tb21 cu4 => ?_⟩
  refine ne_no hC (cu1.extI (.ofN ((e19.trans e20).trans e21))) cu4 (fun _ _ => rfl) ?_
  refine ⟨false, rfl, iteF ?_⟩
  have e22 := (e19'.trans e20).trans e21
  replace ls6 := ls6.n e22 tb21
  replace cv1 := cv1.extI (.ofN e22)
  replace cv2 := cv2.extI (.ofN e22)
  replace cvf := cvf.extI (.ofN e22)
  clear e18 e19 e19' e20 e21 e22 tb18 tb19 tb20 tb21 cu1 cu2 cu3 cu4 hts okS szS hinS
  -- enlarged
  have enlB : ∀ x y : Int, 0 ≤ x * y → x * y ≤ 64 → (x * (1 + r5)) * (y * 1) ≤ 2000 := fun x y h0 h => by
    rw [Int.mul_one, Int.mul_right_comm]
    have : x * y * (1 + r5) ≤ 64 * 4 := Int.mul_le_mul h (by omega) (by omega) (by decide)
    omega
  refine ⟨_, rfl, _, rfl, _, ovG g1 g2 k, _, _, _, 1 + r5, 1, rfl, ls6.tabs, cvf.up hC, by omega, by omega, by decide, by decide, enlB _ _ posF (by omega), fun u1 H18 a7 b7 c7 e18 tb18 cu1 => ?_⟩
  refine ⟨_, rfl, _, rfl, _, g1, _, _, _, 1 + r5, 1, rfl, tb18, cv1.extI (.ofN e18), by omega, by omega, by decide, by decide, enlB _ _ pos1 (by omega), fun u2 H19 a8 b8 c8 e19 tb19 cu2 => ?_⟩
  have e19' := e18.trans e19
  refine ⟨_, rfl, _, rfl, _, g2, _, _, _, 1 + r5, 1, rfl, tb19, cv2.extI (.ofN e19'), by omega, by omega, by decide, by decide, enlB _ _ pos2 (by omega), fun u3 H20 a9 b9 c9 e20 tb20 cu3 => ?_⟩
  have pA := okA.a
  have rA := okA.c
  have okE : Mn.Ok (p * (1 + r5)) (q * (1 + r5)) (r * 1) := ⟨Int.mul_nonneg okA.b0 (by omega), Int.mul_lt_mul_of_pos_right okA.ba (by omega), by omega⟩
  refine ⟨_, rfl, rfl, rfl, ov_use hk.let tb20 ((cu2.up hC).extI (.ofN e20)) (cu3.up hC) okE (by
    rw [Int.mul_one, Int.mul_right_comm]
    have : p * r * (1 + r5) ≤ 64 * 4 := Int.mul_le_mul sA64 (by omega) (by omega) (by decide)
    omega) (enl_per A1 (by omega) (by omega)) (enl_per A2 (by omega) (by omega)) fun u4 H21 a10 b10 c10 e21 tb21 cu4 => ?_⟩
  refine ne_no hC (cu1.extI (.ofN ((e19.trans e20).trans e21))) cu4 (fun _ _ => rfl) ?_
  refine ⟨false, rfl, iteF ?_⟩
  exact ⟨rfl, rfl, ls6.n ((e19'.trans e20).trans e21) tb21⟩
end
end Wk
end
section
set_option maxHeartbeats 16000000
/-! Every def keeps its promise, from the facts. -/
namespace Wk
open PySem PySem.Spec PyProof.Rows L2 Cl TL LamX
theorem klB_ok {K : Fr} {C : Addr} (c : Cls K C) (h : klB K C = true) (o : objB K = true) : Kl K C := by
  obtain ⟨h1, h2⟩ := He.ba h
  obtain ⟨o1, o2⟩ := He.ba o
  exact ⟨c, He.eqO_ok h1, He.eqO_ok o1, of_decide_eq_true o2, of_decide_eq_true h2⟩
theorem one {p : Addr → Prop} {a : Addr} (h : p a) : ∀ E ∈ [a], p E := fun E hE => by
  obtain rfl := List.mem_singleton.mp hE
  exact h
theorem two {p : Addr → Prop} {a b : Addr} (h : p a) (g : p b) : ∀ E ∈ [a, b], p E := fun E hE => by
  simp only [List.mem_cons, List.not_mem_nil, or_false] at hE
  rcases hE with rfl | rfl
  · exact h
  · exact g
theorem mat_of {K : Fr} {w : World} {mg : Str → Option Value} (g : mg "MATRICES" = some (.ref (He.ga K "MATRICES"))) (t : He.dicW K (He.ga K "MATRICES") = some (He.keysIn w.params (mats.map (·.1)))) (m : matB K = true) : MatF K w mg (He.ga K "MATRICES") := by
  obtain ⟨es, n, D⟩ := He.dicW_ok t
  refine ⟨g, ⟨es, n, D⟩, fun k p q r s hk => ?_⟩
  obtain ⟨t, e, hS⟩ := matB_ok m hk
  exact ⟨t, ⟨es, n, .ref t, D.at_, D.lit, e, rfl⟩, e, hS⟩
theorem lam_of {K : Fr} {base : Heap} {mg : Str → Option Value} {x qual q : Str} {params : Arguments} {body : List Stmt} {scope : Scope} {dvs : List V} {kws : List (Str × V)} {fd : FuncData} {p : He.Defn} (F : FunD K x qual params body scope dvs kws (He.fAd K p) fd)
    (TB : TabB base mg (He.cT K p).1 (He.cT K p).2) (hq : ((He.cT K p).2, q) ∈ tabsK K) (d : disB K = true) : LamD base mg (tabsK K) q fd := by
  obtain ⟨oc, od, dV, kV, doc, pm, an, cdv, ct, osl, rfl, lk, hcd, _, _⟩ := F.ex
  obtain ⟨c, rfl⟩ := He.codeIn_ref hcd
  have e : (He.cT K p).1 = c := He.codeOf_eq lk rfl
  exact ⟨c, (He.cT K p).2, rfl, e ▸ TB, hq, disB_ok d hq⟩
theorem cell_of {K : Fr} {f : Addr} {fd : FuncData} (F : FD K "cell" "Net.cell" (sNet 16) f fd) : Gf.CellFn K f := by
  have hb : L2.Binds K fd ["self"] [] := F.bindsN fun _ _ _ _ _ _ us hl => match us, hl with | [_], _ => rfl
  obtain ⟨oc, od, dV, kV, doc, pm, an, cdv, ct, osl, rfl, lk, hcd, _, _⟩ := F.ex
  exact ⟨_, _, _, _, _, _, _, _, _, _, _, _, _, _, _, _, _, _, _, _, _, _, _, _, _, _, _, _, _, _, _, _, _, _, _, _, _, _, lk, hcd, hb, rfl, rfl, rfl, by decide +kernel, by decide +kernel, by decide +kernel, by decide +kernel, by decide +kernel, by decide +kernel, by decide +kernel⟩
set_option maxHeartbeats 0 in
theorem all_ok {P : Program} {w : World} {K : Fr} {mg : Str → Option Value} {base h : Heap} {fd : FuncData} (c : Says lawFa lawFn w h K) (X : K.In base) (G : base.Ns mainGlobals mg) (TB : ∀ p ∈ tfs, TabB base mg (He.cT K p).1 (He.cT K p).2)
    (F : FD K "law" "law" sLaw (He.ga K "law") fd) : FnOk P w K mg base C0 11 (He.ga K "law") fd ["_law_script"] (spLaw K (tabsK K)) := by
  have y0 := c.more
  obtain ⟨x_mat, y1⟩ := He.ba y0
  obtain ⟨x_back, y2⟩ := He.ba y1
  obtain ⟨x_obj, y3⟩ := He.ba y2
  obtain ⟨x_klN, y4⟩ := He.ba y3
  obtain ⟨x_klC, y5⟩ := He.ba y4
  obtain ⟨x_klW, y6⟩ := He.ba y5
  obtain ⟨x_pNn, y7⟩ := He.ba y6
  obtain ⟨x_rNn, y8⟩ := He.ba y7
  obtain ⟨x_pNs, y9⟩ := He.ba y8
  obtain ⟨x_rNs, y10⟩ := He.ba y9
  obtain ⟨x_pMk, y11⟩ := He.ba y10
  obtain ⟨x_rMk, y12⟩ := He.ba y11
  obtain ⟨x_pCn, y13⟩ := He.ba y12
  obtain ⟨x_pWn, y14⟩ := He.ba y13
  obtain ⟨x_rCn, y15⟩ := He.ba y14
  obtain ⟨x_pCt, y16⟩ := He.ba y15
  obtain ⟨x_pWt, y17⟩ := He.ba y16
  obtain ⟨x_rCt, y18⟩ := He.ba y17
  obtain ⟨x_pCc, y19⟩ := He.ba y18
  obtain ⟨x_pWc, y20⟩ := He.ba y19
  obtain ⟨x_rCc, y21⟩ := He.ba y20
  obtain ⟨x_rdN, y22⟩ := He.ba y21
  obtain ⟨x_rdC, y23⟩ := He.ba y22
  obtain ⟨x_wof, y24⟩ := He.ba y23
  obtain ⟨x_won, y25⟩ := He.ba y24
  obtain ⟨x_wwh, y26⟩ := He.ba y25
  obtain ⟨x_fwh, y27⟩ := He.ba y26
  obtain ⟨x_dis, y28⟩ := He.ba y27
  obtain ⟨x_sN, y29⟩ := He.ba y28
  obtain ⟨x_sC, y30⟩ := He.ba y29
  obtain ⟨x_sW, y31⟩ := He.ba y30
  obtain ⟨x_sfM, y32⟩ := He.ba y31
  obtain ⟨x_rmM, y33⟩ := He.ba y32
  obtain ⟨x_wseen, y34⟩ := He.ba y33
  obtain ⟨x_weq, y35⟩ := He.ba y34
  obtain ⟨x_wmul, y36⟩ := He.ba y35
  obtain ⟨x_wne, y37⟩ := He.ba y36
  obtain ⟨x_wobj, y38⟩ := He.ba y37
  have x_wkit := y38
  clear y0 y1 y2 y3 y4 y5 y6 y7 y8 y9 y10 y11 y12 y13 y14 y15 y16 y17 y18 y19 y20 y21 y22 y23 y24 y25 y26 y27 y28 y29 y30 y31 y32 y33 y34 y35 y36 y37 y38
  have B : Bl mg := ⟨He.free_ok X G (c.fact 61 (f := .free "abs")), He.free_ok X G (c.fact 62 (f := .free "isinstance")), He.free_ok X G (c.fact 63 (f := .free "int")), He.free_ok X G (c.fact 64 (f := .free "bool")), He.free_ok X G (c.fact 65 (f := .free "tuple")), He.free_ok X G (c.fact 66 (f := .free "list")), He.free_ok X G (c.fact 67 (f := .free "dict")), He.free_ok X G (c.fact 68 (f := .free "str")), He.free_ok X G (c.fact 69 (f := .free "len")), He.free_ok X G (c.fact 70 (f := .free "all")), He.free_ok X G (c.fact 71 (f := .free "range")), He.free_ok X G (c.fact 72 (f := .free "enumerate"))⟩
  have LF : LetF mg := ⟨He.str_ok X G (c.fact 73 (f := .str "LETTERS" letS))⟩
  have MoF : MostF mg := ⟨He.int_ok X G (c.fact 74 (f := .int "MOST_PLACES" 2000))⟩
  have MoR : MostR mg := ⟨He.int_ok X G (c.fact 75 (f := .int "MOST_ROWS" 100)), He.int_ok X G (c.fact 76 (f := .int "MOST_LETTERS" 1000))⟩
  have CN : Cls K (aN K) := He.cls_ok (c.fact 77 (f := .cls "Net"))
  have gN : mg "Net" = some (.ref (aN K)) := (He.glo_ok X G (c.fact 55 (f := .glo "Net")))
  have mkN : Mk K (aN K) (He.ma K (aN K) "__init__") := He.mkr_ok (c.fact 78 (f := .mkr "Net"))
  have CM : Cls K (aM K) := He.cls_ok (c.fact 79 (f := .cls "Motion"))
  have gM : mg "Motion" = some (.ref (aM K)) := (He.glo_ok X G (c.fact 56 (f := .glo "Motion")))
  have mkM : Mk K (aM K) (He.ma K (aM K) "__init__") := He.mkr_ok (c.fact 80 (f := .mkr "Motion"))
  have CC : Cls K (aC K) := He.cls_ok (c.fact 81 (f := .cls "Carpet"))
  have gC : mg "Carpet" = some (.ref (aC K)) := (He.glo_ok X G (c.fact 57 (f := .glo "Carpet")))
  have mkC : Mk K (aC K) (He.ma K (aC K) "__init__") := He.mkr_ok (c.fact 82 (f := .mkr "Carpet"))
  have CW : Cls K (aW K) := He.cls_ok (c.fact 83 (f := .cls "Woven"))
  have gW : mg "Woven" = some (.ref (aW K)) := (He.glo_ok X G (c.fact 58 (f := .glo "Woven")))
  have mkW : Mk K (aW K) (He.ma K (aW K) "__init__") := He.mkr_ok (c.fact 84 (f := .mkr "Woven"))
  have KN : Kl K (aN K) := klB_ok CN x_klN x_obj
  have KC : Kl K (aC K) := klB_ok CC x_klC x_obj
  have KW : Kl K (aW K) := klB_ok CW x_klW x_obj
  have NF : NetF K mg (aN K) := ⟨KN, gN, He.noat_ok (c.fact 85 (f := .noat "Net" "own_numbers")), He.keep_ok (c.fact 106 (f := .keep "Net"))⟩
  have nMk : NoAttr K (aM K) "own_kind" := He.noat_ok (c.fact 86 (f := .noat "Motion" "own_kind"))
  have nMs : NoAttr K (aM K) "own_shift" := He.noat_ok (c.fact 87 (f := .noat "Motion" "own_shift"))
  have TF : CarF K [aW K, aC K] := ⟨two KW KC, two (He.noat_ok (c.fact 90 (f := .noat "Woven" "own_net"))) (He.noat_ok (c.fact 88 (f := .noat "Carpet" "own_net"))), two (He.noat_ok (c.fact 91 (f := .noat "Woven" "own_text"))) (He.noat_ok (c.fact 89 (f := .noat "Carpet" "own_text")))⟩
  have hW : aW K ∈ [aW K, aC K] := List.mem_cons_self
  have hC : aC K ∈ [aW K, aC K] := List.mem_cons_of_mem _ List.mem_cons_self
  have t1 := (List.cons.inj c.tabs).1
  have t2 := (List.cons.inj (List.cons.inj c.tabs).2).1
  have MaF : MatF K w mg (He.ga K "MATRICES") := mat_of (He.glo_ok X G (c.fact 59 (f := .glo "MATRICES"))) t1 x_mat
  have BaF : BackF K w mg (He.ga K "BACK") := ⟨(He.glo_ok X G (c.fact 60 (f := .glo "BACK"))), He.dicW_ok t2, fun k m h => backB_ok x_back h⟩
  have P_numbers : Ps K [aN K] "numbers" (He5.wf K (aN K) "property" "numbers") := ⟨one ⟨CN, _, prpB_ok x_pNn x_rNn⟩⟩
  have P_size : Ps K [aN K] "size" (He5.wf K (aN K) "property" "size") := ⟨one ⟨CN, _, prpB_ok x_pNs x_rNs⟩⟩
  have P_kind : Ps K [aM K] "kind" (He5.wf K (aM K) "property" "kind") := ⟨one ⟨CM, _, prpB_ok x_pMk x_rMk⟩⟩
  have P_net : Ps K [aW K, aC K] "net" (He5.wf K (aC K) "property" "net") := ⟨two ⟨CW, _, prpB_ok x_pWn x_rCn⟩ ⟨CC, _, prpB_ok x_pCn x_rCn⟩⟩
  have P_text : Ps K [aW K, aC K] "text" (He5.wf K (aC K) "property" "text") := ⟨two ⟨CW, _, prpB_ok x_pWt x_rCt⟩ ⟨CC, _, prpB_ok x_pCt x_rCt⟩⟩
  have P_colours : Ps K [aW K, aC K] "colours" (He5.wf K (aC K) "property" "colours") := ⟨two ⟨CW, _, prpB_ok x_pWc x_rCc⟩ ⟨CC, _, prpB_ok x_pCc x_rCc⟩⟩
  have M_span : Meth K (aN K) "spanning" (He.ma K (aN K) "spanning") := He.meth_ok (c.fact 92 (f := .meth "Net" "spanning"))
  have M_pic : Meth K (aN K) "place_in_cell" (He.ma K (aN K) "place_in_cell") := He.meth_ok (c.fact 93 (f := .meth "Net" "place_in_cell"))
  have M_and : Meth K (aN K) "__and__" (He.ma K (aN K) "__and__") := He.meth_ok (c.fact 94 (f := .meth "Net" "__and__"))
  have M_nmul : Meth K (aN K) "__mul__" (He.ma K (aN K) "__mul__") := He.meth_ok (c.fact 95 (f := .meth "Net" "__mul__"))
  have M_neq : Meth K (aN K) "__eq__" (He.ma K (aN K) "__eq__") := He.meth_ok (c.fact 96 (f := .meth "Net" "__eq__"))
  have M_spots : Meth K (aN K) "spots" (He.ma K (aN K) "spots") := He.meth_ok (c.fact 97 (f := .meth "Net" "spots"))
  have M_cell : Meth K (aN K) "cell" (He.ma K (aN K) "cell") := He.meth_ok (c.fact 98 (f := .meth "Net" "cell"))
  have M_image : Meth K (aM K) "image" (He.ma K (aM K) "image") := He.meth_ok (c.fact 99 (f := .meth "Motion" "image"))
  have M_inv : Meth K (aM K) "__invert__" (He.ma K (aM K) "__invert__") := He.meth_ok (c.fact 100 (f := .meth "Motion" "__invert__"))
  have M_mmul : Meth K (aM K) "__mul__" (He.ma K (aM K) "__mul__") := He.meth_ok (c.fact 101 (f := .meth "Motion" "__mul__"))
  have M_seen : Meth K (aC K) "seen" (He.ma K (aC K) "seen") := He.meth_ok (c.fact 102 (f := .meth "Carpet" "seen"))
  have M_ceq : Meth K (aC K) "__eq__" (He.ma K (aC K) "__eq__") := He.meth_ok (c.fact 103 (f := .meth "Carpet" "__eq__"))
  have M_cmul : Meth K (aC K) "__mul__" (He.ma K (aC K) "__mul__") := He.meth_ok (c.fact 104 (f := .meth "Carpet" "__mul__"))
  have Ms_span : Ms K [aN K] "spanning" (He.ma K (aN K) "spanning") := ⟨one ⟨CN, M_span⟩⟩
  have Ms_pic : Ms K [aN K] "place_in_cell" (He.ma K (aN K) "place_in_cell") := ⟨one ⟨CN, M_pic⟩⟩
  have Ms_spots : Ms K [aN K] "spots" (He.ma K (aN K) "spots") := ⟨one ⟨CN, M_spots⟩⟩
  have Ms_image : Ms K [aM K] "image" (He.ma K (aM K) "image") := ⟨one ⟨CM, M_image⟩⟩
  have Ms_seen : Ms K [aW K, aC K] "seen" (He.ma K (aC K) "seen") := ⟨two ⟨CW, He.eqO_ok x_wseen, M_seen.fn, M_seen.kp⟩ ⟨CC, M_seen⟩⟩
  obtain ⟨neN, sN⟩ := He.ba x_sN
  obtain ⟨sfN, sN⟩ := He.ba sN
  obtain ⟨rmN, subN⟩ := He.ba sN
  obtain ⟨neC, sC⟩ := He.ba x_sC
  obtain ⟨sfC, sC⟩ := He.ba sC
  obtain ⟨rmC, subC⟩ := He.ba sC
  obtain ⟨neW, sW⟩ := He.ba x_sW
  obtain ⟨sfW, sW⟩ := He.ba sW
  obtain ⟨rmW, subW⟩ := He.ba sW
  have e_and : PySem.dunder (Operator.info .BitAnd).2 = ("__and__" : Str) := by decide +kernel
  have e_mul : PySem.dunder (Operator.info .Mult).2 = ("__mul__" : Str) := by decide +kernel
  have e_rmul : PySem.dunderR (Operator.info .Mult).2 = ("__rmul__" : Str) := by decide +kernel
  have O_and : Op1F K (aN K) (PySem.dunder (Operator.info .BitAnd).2) (He.ma K (aN K) "__and__") := e_and ▸ ⟨sfN, M_and.at_, M_and.fn⟩
  have O_neq : Op1F K (aN K) "__eq__" (He.ma K (aN K) "__eq__") := ⟨sfN, M_neq.at_, M_neq.fn⟩
  have O_nmul : Op2F K (aN K) (aM K) (PySem.dunder (Operator.info .Mult).2) (PySem.dunderR (Operator.info .Mult).2) (He.ma K (aN K) "__mul__") := e_mul ▸ e_rmul ▸ ⟨of_decide_eq_true neN, sfN, x_sfM, M_nmul.at_, M_nmul.fn, He.eqO_ok rmN, ⟨_, M_mmul.at_⟩, He.eqO_ok x_rmM, of_decide_eq_true subN⟩
  have O_cmul : Op2F K (aC K) (aM K) (PySem.dunder (Operator.info .Mult).2) (PySem.dunderR (Operator.info .Mult).2) (He.ma K (aC K) "__mul__") := e_mul ▸ e_rmul ▸ ⟨of_decide_eq_true neC, sfC, x_sfM, M_cmul.at_, M_cmul.fn, He.eqO_ok rmC, ⟨_, M_mmul.at_⟩, He.eqO_ok x_rmM, of_decide_eq_true subC⟩
  have O_wmul : Op2F K (aW K) (aM K) (PySem.dunder (Operator.info .Mult).2) (PySem.dunderR (Operator.info .Mult).2) (He.ma K (aC K) "__mul__") := e_mul ▸ e_rmul ▸ ⟨of_decide_eq_true neW, sfW, x_sfM, He.eqO_ok x_wmul, M_cmul.fn, He.eqO_ok rmW, ⟨_, M_mmul.at_⟩, He.eqO_ok x_rmM, of_decide_eq_true subW⟩
  have OMu : ∀ E ∈ [aW K, aC K], Op2F K E (aM K) (PySem.dunder (Operator.info .Mult).2) (PySem.dunderR (Operator.info .Mult).2) (He.ma K (aC K) "__mul__") := two O_wmul O_cmul
  have r0 := rdB_ok x_rdN
  have c0 := He5.cmet_of (m := "whole") x_wwh x_fwh
  have kit0 : ∀ a : Addr, PySem.W.kitOne K (.ref a) (.ref a) = some true := fun a => by
    unfold PySem.W.kitOne
    rw [if_pos (beq_self_eq_true _)]
  obtain ⟨d_gcd, F_gcd⟩ := c.def_ 0 (d := gD "greatest_divisor" sGcd)
  have R_gcd := ok_gcd (P := P) (w := w) (base := base) (mg := mg)  F_gcd B
  have G_gcd : Gb K mg "greatest_divisor" (He.ga K "greatest_divisor") := ⟨(He.glo_ok X G (c.fact 0 (f := .glo "greatest_divisor"))), F_gcd.kp⟩
  obtain ⟨d_isint, F_isint⟩ := c.def_ 1 (d := gD "is_integer" sIsInt)
  have R_isint := ok_isInt (P := P) (w := w) (base := base) (mg := mg)  F_isint B
  have G_isint : Gb K mg "is_integer" (He.ga K "is_integer") := ⟨(He.glo_ok X G (c.fact 1 (f := .glo "is_integer"))), F_isint.kp⟩
  obtain ⟨d_ispl, F_ispl⟩ := c.def_ 2 (d := gD "is_place" sIsPlace)
  have R_ispl := ok_isPlace (P := P) (w := w) (base := base) (mg := mg)  F_ispl B R_isint G_isint
  have G_ispl : Gb K mg "is_place" (He.ga K "is_place") := ⟨(He.glo_ok X G (c.fact 2 (f := .glo "is_place"))), F_ispl.kp⟩
  obtain ⟨d_chkpl, F_chkpl⟩ := c.def_ 3 (d := gD "check_place" sChkPlace)
  have R_chkpl := ok_chkPlace (P := P) (w := w) (base := base) (mg := mg)  F_chkpl R_ispl G_ispl
  have G_chkpl : Gb K mg "check_place" (He.ga K "check_place") := ⟨(He.glo_ok X G (c.fact 3 (f := .glo "check_place"))), F_chkpl.kp⟩
  obtain ⟨d_chknum, F_chknum⟩ := c.def_ 4 (d := gD "check_number" sChkNum)
  have R_chknum := ok_chkNum (P := P) (w := w) (base := base) (mg := mg)  F_chknum R_isint G_isint
  have G_chknum : Gb K mg "check_number" (He.ga K "check_number") := ⟨(He.glo_ok X G (c.fact 4 (f := .glo "check_number"))), F_chknum.kp⟩
  obtain ⟨d_plus, F_plus⟩ := c.def_ 5 (d := gD "plus" sPlus)
  have R_plus := ok_plus (P := P) (w := w) (base := base) (mg := mg)  F_plus 
  have G_plus : Gb K mg "plus" (He.ga K "plus") := ⟨(He.glo_ok X G (c.fact 5 (f := .glo "plus"))), F_plus.kp⟩
  obtain ⟨d_bez, F_bez⟩ := c.def_ 6 (d := gD "bezout" sBez)
  have R_bez := ok_bez (P := P) (w := w) (base := base) (mg := mg)  F_bez 
  have G_bez : Gb K mg "bezout" (He.ga K "bezout") := ⟨(He.glo_ok X G (c.fact 6 (f := .glo "bezout"))), F_bez.kp⟩
  obtain ⟨d_divs, F_divs⟩ := c.def_ 7 (d := gD "divisors" sDivs)
  have R_divs := ok_divs (P := P) (w := w) (base := base) (mg := mg)  F_divs B
  have G_divs : Gb K mg "divisors" (He.ga K "divisors") := ⟨(He.glo_ok X G (c.fact 7 (f := .glo "divisors"))), F_divs.kp⟩
  obtain ⟨d_turned, F_turned⟩ := c.def_ 8 (d := gD "turned" sTurned)
  have R_turned := ok_turned (P := P) (w := w) (base := base) (mg := mg)  F_turned MaF
  have G_turned : Gb K mg "turned" (He.ga K "turned") := ⟨(He.glo_ok X G (c.fact 8 (f := .glo "turned"))), F_turned.kp⟩
  obtain ⟨d_form, F_form⟩ := c.def_ 9 (d := gD "form_of" sForm)
  have R_form := ok_form (P := P) (w := w) (base := base) (mg := mg)  F_form R_gcd G_gcd
  have G_form : Gb K mg "form_of" (He.ga K "form_of") := ⟨(He.glo_ok X G (c.fact 9 (f := .glo "form_of"))), F_form.kp⟩
  obtain ⟨d_are, F_are⟩ := c.def_ 10 (d := gD "are_numbers" sAre)
  have R_are := ok_are (P := P) (w := w) (base := base) (mg := mg)  F_are B R_isint G_isint
  have G_are : Gb K mg "are_numbers" (He.ga K "are_numbers") := ⟨(He.glo_ok X G (c.fact 10 (f := .glo "are_numbers"))), F_are.kp⟩
  obtain ⟨d_com, F_com⟩ := c.def_ 11 (d := gD "common_numbers" sCom)
  have R_com := ok_com (P := P) (w := w) (base := base) (mg := mg)  F_com R_gcd G_gcd R_bez G_bez
  have G_com : Gb K mg "common_numbers" (He.ga K "common_numbers") := ⟨(He.glo_ok X G (c.fact 11 (f := .glo "common_numbers"))), F_com.kp⟩
  obtain ⟨d_minit, F_minit⟩ := c.def_ 77 (d := { mD "Motion" "__init__" "Motion.__init__" (sMot 1) with dfl := [.adr (He.dflAt ("Motion", some "__init__") 0)] })
  have R_minit := ok_motInit (P := P) (w := w) (base := base) (mg := mg) (dvs := []) F_minit B MaF R_chkpl G_chkpl CM nMk nMs
  obtain ⟨d_image, F_image⟩ := c.def_ 62 (d := mD "Motion" "image" "Motion.image" (sMot 6))
  have R_image := ok_image (P := P) (w := w) (base := base) (mg := mg)  F_image R_turned G_turned R_plus G_plus CM nMk nMs
  obtain ⟨d_inv, F_inv⟩ := c.def_ 63 (d := mD "Motion" "__invert__" "Motion.__invert__" (sMot 9))
  have R_inv := ok_inv (P := P) (w := w) (base := base) (mg := mg)  F_inv R_turned G_turned BaF R_minit gM mkM CM nMk nMs
  obtain ⟨d_kind, F_kind⟩ := c.def_ 70 (d := wD "Motion" "property" "kind" "Motion.kind" (sMot 3))
  have R_kind := ok_kind (P := P) (w := w) (base := base) (mg := mg)  F_kind CM nMk
  have b_kind : L2.Binds K d_kind ["self"] [] := F_kind.bindsN fun _ _ _ _ _ _ us hl => match us, hl with | [_], _ => rfl
  obtain ⟨d_ninit, F_ninit⟩ := c.def_ 54 (d := mD "Net" "__init__" "Net.__init__" (sNet 0))
  have R_ninit := ok_netInit (P := P) (w := w) (base := base) (mg := mg)  F_ninit NF R_are G_are
  obtain ⟨d_numbers, F_numbers⟩ := c.def_ 68 (d := wD "Net" "property" "numbers" "Net.numbers" (sNet 3))
  have R_numbers := ok_netNumbers (P := P) (w := w) (base := base) (mg := mg)  F_numbers NF
  have b_numbers : L2.Binds K d_numbers ["self"] [] := F_numbers.bindsN fun _ _ _ _ _ _ us hl => match us, hl with | [_], _ => rfl
  obtain ⟨d_size, F_size⟩ := c.def_ 69 (d := wD "Net" "property" "size" "Net.size" (sNet 4))
  have R_size := ok_netSize (P := P) (w := w) (base := base) (mg := mg)  F_size NF
  have b_size : L2.Binds K d_size ["self"] [] := F_size.bindsN fun _ _ _ _ _ _ us hl => match us, hl with | [_], _ => rfl
  obtain ⟨d_pic, F_pic⟩ := c.def_ 56 (d := mD "Net" "place_in_cell" "Net.place_in_cell" (sNet 6))
  have R_pic := ok_netPic (P := P) (w := w) (base := base) (mg := mg)  F_pic NF
  obtain ⟨d_spots, F_spots⟩ := c.def_ 60 (d := mD "Net" "spots" "Net.spots" (sNet 15))
  have R_spots := ok_spots (P := P) (w := w) (base := base) (mg := mg)  F_spots B NF
  obtain ⟨d_whole, F_whole⟩ := c.def_ 75 (d := wD "Net" "classmethod" "whole" "Net.whole" (sNet 2))
  have R_whole := ok_whole (P := P) (w := w) (base := base) (mg := mg)  F_whole NF R_ninit mkN
  obtain ⟨d_and, F_and⟩ := c.def_ 57 (d := mD "Net" "__and__" "Net.__and__" (sNet 8))
  have R_and := ok_and (P := P) (w := w) (base := base) (mg := mg)  F_and B NF R_ninit mkN R_com G_com (kit0 _)
  obtain ⟨d_neq, F_neq⟩ := c.def_ 59 (d := mD "Net" "__eq__" "Net.__eq__" (sNet 11))
  have R_neq := ok_netEq (P := P) (w := w) (base := base) (mg := mg)  F_neq B NF (kit0 _)
  obtain ⟨d_of, F_of⟩ := c.def_ 74 (d := wD "Net" "staticmethod" "of" "Net.of" (sNet 1))
  have R_of := ok_of (P := P) (w := w) (base := base) (mg := mg)  F_of NF R_ninit mkN R_form G_form R_chkpl G_chkpl
  have SO_of : Ss K (aN K) "of" (He5.wf K (aN K) "staticmethod" "of") := by
    obtain ⟨h1, r, h2⟩ := He5.wrapB_ok x_wof
    exact ⟨_, _, r, r0, h1, h2, F_of.kp⟩
  obtain ⟨d_span, F_span⟩ := c.def_ 55 (d := mD "Net" "spanning" "Net.spanning" (sNet 5))
  have R_span := ok_span (P := P) (w := w) (base := base) (mg := mg)  F_span NF
  obtain ⟨d_nmul, F_nmul⟩ := c.def_ 58 (d := mD "Net" "__mul__" "Net.__mul__" (sNet 10))
  have R_nmul := ok_netMul (P := P) (w := w) (base := base) (mg := mg)  F_nmul NF R_span Ms_span R_of SO_of R_turned G_turned R_kind b_kind P_kind
  obtain ⟨d_iscol, F_iscol⟩ := c.def_ 12 (d := gD "is_colour" sIsCol)
  have R_iscol := ok_isCol (P := P) (w := w) (base := base) (mg := mg)  F_iscol B LF
  have G_iscol : Gb K mg "is_colour" (He.ga K "is_colour") := ⟨(He.glo_ok X G (c.fact 12 (f := .glo "is_colour"))), F_iscol.kp⟩
  obtain ⟨d_chkcol, F_chkcol⟩ := c.def_ 13 (d := gD "check_colour" sChkCol)
  have R_chkcol := ok_chkCol (P := P) (w := w) (base := base) (mg := mg)  F_chkcol R_iscol G_iscol
  have G_chkcol : Gb K mg "check_colour" (He.ga K "check_colour") := ⟨(He.glo_ok X G (c.fact 13 (f := .glo "check_colour"))), F_chkcol.kp⟩
  obtain ⟨d_isrow, F_isrow⟩ := c.def_ 14 (d := gD "is_row" sIsRow)
  have R_isrow := ok_isRow (P := P) (w := w) (base := base) (mg := mg)  F_isrow B
  have G_isrow : Gb K mg "is_row" (He.ga K "is_row") := ⟨(He.glo_ok X G (c.fact 14 (f := .glo "is_row"))), F_isrow.kp⟩
  obtain ⟨d_colat, F_colat⟩ := c.def_ 15 (d := gD "colour_at" sColAt)
  have R_colat := ok_colAt (P := P) (w := w) (base := base) (mg := mg)  F_colat R_pic Ms_pic R_numbers b_numbers P_numbers
  have G_colat : Gb K mg "colour_at" (He.ga K "colour_at") := ⟨(He.glo_ok X G (c.fact 15 (f := .glo "colour_at"))), F_colat.kp⟩
  obtain ⟨d_kept, F_kept⟩ := c.def_ 16 (d := gD "is_kept" sKept)
  have R_kept := ok_kept (P := P) (w := w) (base := base) (mg := mg)  F_kept R_spots Ms_spots R_colat G_colat R_plus G_plus
  have G_kept : Gb K mg "is_kept" (He.ga K "is_kept") := ⟨(He.glo_ok X G (c.fact 16 (f := .glo "is_kept"))), F_kept.kp⟩
  obtain ⟨d_keptnet, F_keptnet⟩ := c.def_ 17 (d := gD "kept_net" sKeptNet)
  have R_keptnet := ok_keptNet (P := P) (w := w) (base := base) (mg := mg)  F_keptnet B NF R_ninit mkN R_numbers b_numbers P_numbers R_divs G_divs R_kept G_kept
  have G_keptnet : Gb K mg "kept_net" (He.ga K "kept_net") := ⟨(He.glo_ok X G (c.fact 17 (f := .glo "kept_net"))), F_keptnet.kp⟩
  obtain ⟨d_least, F_least⟩ := c.def_ 18 (d := gD "least_cell" sLeast)
  have R_least := ok_least (P := P) (w := w) (base := base) (mg := mg)  F_least R_keptnet G_keptnet R_spots Ms_spots R_colat G_colat
  have G_least : Gb K mg "least_cell" (He.ga K "least_cell") := ⟨(He.glo_ok X G (c.fact 18 (f := .glo "least_cell"))), F_least.kp⟩
  obtain ⟨d_winit, F_winit⟩ := c.def_ 67 (d := mD "Woven" "__init__" "Woven.__init__" (sWov 0))
  have R_winit := ok_wovInit (P := P) (w := w) (base := base) (mg := mg)  F_winit TF hW R_least G_least
  obtain ⟨d_cnet, F_cnet⟩ := c.def_ 71 (d := wD "Carpet" "property" "net" "Carpet.net" (sCar 3))
  have R_cnet := ok_carNet (P := P) (w := w) (base := base) (mg := mg) (Cn := aN K) F_cnet TF
  have b_cnet : L2.Binds K d_cnet ["self"] [] := F_cnet.bindsN fun _ _ _ _ _ _ us hl => match us, hl with | [_], _ => rfl
  obtain ⟨d_ctext, F_ctext⟩ := c.def_ 72 (d := wD "Carpet" "property" "text" "Carpet.text" (sCar 4))
  have R_ctext := ok_carText (P := P) (w := w) (base := base) (mg := mg) (Cn := aN K) F_ctext TF
  have b_ctext : L2.Binds K d_ctext ["self"] [] := F_ctext.bindsN fun _ _ _ _ _ _ us hl => match us, hl with | [_], _ => rfl
  obtain ⟨d_seen, F_seen⟩ := c.def_ 64 (d := mD "Carpet" "seen" "Carpet.seen" (sCar 7))
  have R_seen := ok_seen (P := P) (w := w) (base := base) (mg := mg)  F_seen TF R_colat G_colat
  obtain ⟨d_cols, F_cols⟩ := c.def_ 73 (d := wD "Carpet" "property" "colours" "Carpet.colours" (sCar 6))
  have R_cols := ok_cols (P := P) (w := w) (base := base) (mg := mg) (Cn := aN K) F_cols TF LF
  have b_cols : L2.Binds K d_cols ["self"] [] := F_cols.bindsN fun _ _ _ _ _ _ us hl => match us, hl with | [_], _ => rfl
  obtain ⟨d_on, F_on⟩ := c.def_ 76 (d := wD "Carpet" "staticmethod" "on" "Carpet.on" (sCar 1))
  have R_on := ok_on (P := P) (w := w) (base := base) (mg := mg)  F_on B LF MoF R_size b_size P_size R_isrow G_isrow R_winit mkW gW
  obtain ⟨d_ceq, F_ceq⟩ := c.def_ 65 (d := mD "Carpet" "__eq__" "Carpet.__eq__" (sCar 11))
  have R_ceq := ok_carEq (P := P) (w := w) (base := base) (mg := mg)  F_ceq B TF gC (two (of_decide_eq_true x_wkit) (kit0 _)) R_neq O_neq
  obtain ⟨d_cmul, F_cmul⟩ := c.def_ 66 (d := mD "Carpet" "__mul__" "Carpet.__mul__" (sCar 15))
  have R_cmul := ok_carMul (P := P) (w := w) (base := base) (mg := mg)  F_cmul TF R_nmul O_nmul R_inv M_inv.at_ M_inv.fn R_spots Ms_spots R_image Ms_image R_seen Ms_seen R_winit mkW gW
  obtain ⟨d_chkrows, F_chkrows⟩ := c.def_ 19 (d := gD "check_rows" sChkRows)
  have R_chkrows := ok_chkRows (P := P) (w := w) (base := base) (mg := mg)  F_chkrows B R_isrow G_isrow
  have G_chkrows : Gb K mg "check_rows" (He.ga K "check_rows") := ⟨(He.glo_ok X G (c.fact 19 (f := .glo "check_rows"))), F_chkrows.kp⟩
  obtain ⟨d_block, F_block⟩ := c.def_ 20 (d := gD "checked_block" sBlock)
  have R_block := ok_block (P := P) (w := w) (base := base) (mg := mg)  F_block B LF MoR R_chkrows G_chkrows R_isint G_isint NF R_ninit mkN
  have G_block : Gb K mg "checked_block" (He.ga K "checked_block") := ⟨(He.glo_ok X G (c.fact 20 (f := .glo "checked_block"))), F_block.kp⟩
  obtain ⟨d_cinit, F_cinit⟩ := c.def_ 78 (d := { mD "Carpet" "__init__" "Carpet.__init__" (sCar 0) with kwd := [("shift", .int 0)] })
  have R_cinit := ok_carInit (P := P) (w := w) (base := base) (mg := mg)  F_cinit TF hC R_block G_block R_least G_least
  obtain ⟨d_common, F_common⟩ := c.def_ 21 (d := gD "common_net" sCommon)
  have R_common := ok_common (P := P) (w := w) (base := base) (mg := mg)  F_common NF r0 c0 R_whole R_and O_and MoF R_size b_size P_size
  have G_common : Gb K mg "common_net" (He.ga K "common_net") := ⟨(He.glo_ok X G (c.fact 21 (f := .glo "common_net"))), F_common.kp⟩
  obtain ⟨d_netall, F_netall⟩ := c.def_ 22 (d := gD "net_of_all" sNetAll)
  have R_netall := ok_netAll (P := P) (w := w) (base := base) (mg := mg)  F_netall B TF R_common G_common R_cnet b_cnet P_net
  have G_netall : Gb K mg "net_of_all" (He.ga K "net_of_all") := ⟨(He.glo_ok X G (c.fact 22 (f := .glo "net_of_all"))), F_netall.kp⟩
  obtain ⟨d_cell, F_cell⟩ := c.def_ 61 (d := mD "Net" "cell" "Net.cell" (sNet 16))
  have CF : Gf.CellFn K (He.ma K (aN K) "cell") := cell_of F_cell
  obtain ⟨d_wovby, F_wovby⟩ := c.def_ 23 (d := gD "woven_by" sWovBy)
  have R_wovby := ok_wovBy (P := P) (w := w) (base := base) (mg := mg) (k := 5) F_wovby B NF CF M_cell R_winit mkW gW (by decide)
  have b_wovby : L2.Binds K d_wovby ["net", "choose"] [] := F_wovby.bindsN fun _ _ _ _ _ _ us hl => match us, hl with | [_, _], _ => rfl
  have G_wovby : Gb K mg "woven_by" (He.ga K "woven_by") := ⟨(He.glo_ok X G (c.fact 23 (f := .glo "woven_by"))), F_wovby.kp⟩
  obtain ⟨d_unlike, F_unlike⟩ := c.def_ 24 (d := gD "first_unlike" sUnlike)
  have R_unlike := ok_unlike (P := P) (w := w) (base := base) (mg := mg)  F_unlike 
  have G_unlike : Gb K mg "first_unlike" (He.ga K "first_unlike") := ⟨(He.glo_ok X G (c.fact 24 (f := .glo "first_unlike"))), F_unlike.kp⟩
  obtain ⟨d_over, F_over⟩ := c.def_ 25 (d := gD "overlay" sOver)
  have L_over : LamD base mg (tabsK K) "overlay.<locals>.<lambda>" d_over := lam_of (p := ("overlay", none)) F_over (TB ("overlay", none) (by simp [tfs])) (by simp [tabsK]) x_dis
  have R_over := ok_over (P := P) (w := w) (base := base) (mg := mg) F_over L_over R_chkcol G_chkcol R_common G_common R_cnet b_cnet P_net R_seen Ms_seen R_wovby b_wovby G_wovby
  have G_over : Gb K mg "overlay" (He.ga K "overlay") := ⟨(He.glo_ok X G (c.fact 25 (f := .glo "overlay"))), F_over.kp⟩
  obtain ⟨d_chkblk, F_chkblk⟩ := c.def_ 31 (d := gD "check_block" sChkBlk)
  have R_chkblk := ok_chkBlk (P := P) (w := w) (base := base) (mg := mg)  F_chkblk R_chknum G_chknum
  have G_chkblk : Gb K mg "check_block" (He.ga K "check_block") := ⟨(He.glo_ok X G (c.fact 31 (f := .glo "check_block"))), F_chkblk.kp⟩
  obtain ⟨d_enl, F_enl⟩ := c.def_ 32 (d := gD "enlarged" sEnl)
  have L_enl : LamD base mg (tabsK K) "enlarged.<locals>.<lambda>" d_enl := lam_of (p := ("enlarged", none)) F_enl (TB ("enlarged", none) (by simp [tfs])) (by simp [tabsK]) x_dis
  have R_enl := ok_enl (P := P) (w := w) (base := base) (mg := mg) F_enl L_enl NF R_chkblk G_chkblk R_ninit mkN MoF R_numbers b_numbers P_numbers R_size b_size P_size R_cnet b_cnet P_net R_seen Ms_seen R_wovby b_wovby G_wovby
  have G_enl : Gb K mg "enlarged" (He.ga K "enlarged") := ⟨(He.glo_ok X G (c.fact 32 (f := .glo "enlarged"))), F_enl.kp⟩
  obtain ⟨d_smp, F_smp⟩ := c.def_ 79 (d := { gD "sampled" sSmp with kwd := [("start", .adr (kwdAt "sampled" "start"))] })
  have L_smp : LamD base mg (tabsK K) "sampled.<locals>.<lambda>" d_smp := lam_of (p := ("sampled", none)) F_smp (TB ("sampled", none) (by simp [tfs])) (by simp [tabsK]) x_dis
  have R_smp := ok_smp (P := P) (w := w) (base := base) (mg := mg) F_smp L_smp NF R_chkblk G_chkblk R_chkpl G_chkpl R_ninit mkN R_and O_and R_numbers b_numbers P_numbers R_plus G_plus R_cnet b_cnet P_net R_seen Ms_seen R_wovby b_wovby G_wovby
  have G_smp : Gb K mg "sampled" (He.ga K "sampled") := ⟨(He.glo_ok X G (c.fact 54 (f := .glo "sampled"))), F_smp.kp⟩
  obtain ⟨d_msk, F_msk⟩ := c.def_ 27 (d := gD "masked" sMsk)
  have L_msk : LamD base mg (tabsK K) "masked.<locals>.<lambda>" d_msk := lam_of (p := ("masked", none)) F_msk (TB ("masked", none) (by simp [tfs])) (by simp [tabsK]) x_dis
  have R_msk := ok_msk (P := P) (w := w) (base := base) (mg := mg) F_msk L_msk B LF R_chkcol G_chkcol R_common G_common R_cnet b_cnet P_net R_seen Ms_seen R_wovby b_wovby G_wovby
  have G_msk : Gb K mg "masked" (He.ga K "masked") := ⟨(He.glo_ok X G (c.fact 27 (f := .glo "masked"))), F_msk.kp⟩
  obtain ⟨d_istbl, F_istbl⟩ := c.def_ 29 (d := gD "is_table" sIsTbl)
  have R_istbl := ok_isTbl (P := P) (w := w) (base := base) (mg := mg)  F_istbl B R_iscol G_iscol
  have G_istbl : Gb K mg "is_table" (He.ga K "is_table") := ⟨(He.glo_ok X G (c.fact 29 (f := .glo "is_table"))), F_istbl.kp⟩
  obtain ⟨d_rec, F_rec⟩ := c.def_ 30 (d := gD "recoloured" sRec)
  have R_rec := ok_rec (P := P) (w := w) (base := base) (mg := mg)  F_rec TF R_istbl G_istbl R_cnet b_cnet P_net R_ctext b_ctext P_text R_winit mkW gW
  have G_rec : Gb K mg "recoloured" (He.ga K "recoloured") := ⟨(He.glo_ok X G (c.fact 30 (f := .glo "recoloured"))), F_rec.kp⟩
  obtain ⟨d_lay, F_lay⟩ := c.def_ 26 (d := gD "layered" sLay)
  have L_lay : LamD base mg (tabsK K) "layered.<locals>.<lambda>" d_lay := lam_of (p := ("layered", none)) F_lay (TB ("layered", none) (by simp [tfs])) (by simp [tabsK]) x_dis
  have R_lay := ok_lay (P := P) (w := w) (base := base) (mg := mg) F_lay L_lay R_chkcol G_chkcol R_netall G_netall R_unlike G_unlike R_seen Ms_seen R_wovby b_wovby G_wovby
  have G_lay : Gb K mg "layered" (He.ga K "layered") := ⟨(He.glo_ok X G (c.fact 26 (f := .glo "layered"))), F_lay.kp⟩
  obtain ⟨d_unc, F_unc⟩ := c.def_ 28 (d := gD "uncovered" sUnc)
  have L_unc : LamD base mg (tabsK K) "uncovered.<locals>.<lambda>" d_unc := lam_of (p := ("uncovered", none)) F_unc (TB ("uncovered", none) (by simp [tfs])) (by simp [tabsK]) x_dis
  have R_unc := ok_unc (P := P) (w := w) (base := base) (mg := mg) F_unc L_unc B LF NF CF M_cell R_chkcol G_chkcol R_common G_common R_pic Ms_pic R_cnet b_cnet P_net R_seen Ms_seen R_wovby b_wovby G_wovby
  have G_unc : Gb K mg "uncovered" (He.ga K "uncovered") := ⟨(He.glo_ok X G (c.fact 28 (f := .glo "uncovered"))), F_unc.kp⟩
  obtain ⟨d_draw, F_draw⟩ := c.def_ 34 (d := gD "_law_draw" sDraw)
  have R_draw := ok_draw (P := P) (w := w) (base := base) (mg := mg)  F_draw B
  have G_draw : Gb K mg "_law_draw" (He.ga K "_law_draw") := ⟨(He.glo_ok X G (c.fact 34 (f := .glo "_law_draw"))), F_draw.kp⟩
  obtain ⟨d_great, F_great⟩ := c.def_ 35 (d := gD "_law_great" sGreat)
  have R_great := ok_great (P := P) (w := w) (base := base) (mg := mg)  F_great R_draw G_draw
  have G_great : Gb K mg "_law_great" (He.ga K "_law_great") := ⟨(He.glo_ok X G (c.fact 35 (f := .glo "_law_great"))), F_great.kp⟩
  obtain ⟨d_place, F_place⟩ := c.def_ 36 (d := gD "_law_place" sPlace)
  have R_place := ok_place (P := P) (w := w) (base := base) (mg := mg)  F_place R_great G_great
  have G_place : Gb K mg "_law_place" (He.ga K "_law_place") := ⟨(He.glo_ok X G (c.fact 36 (f := .glo "_law_place"))), F_place.kp⟩
  obtain ⟨d_low, F_low⟩ := c.def_ 37 (d := gD "_law_low" sLow)
  have R_low := ok_low (P := P) (w := w) (base := base) (mg := mg)  F_low 
  have G_low : Gb K mg "_law_low" (He.ga K "_law_low") := ⟨(He.glo_ok X G (c.fact 37 (f := .glo "_law_low"))), F_low.kp⟩
  obtain ⟨d_lspots, F_lspots⟩ := c.def_ 38 (d := gD "_law_spots" sSpots)
  have R_lspots := ok_spotsL (P := P) (w := w) (base := base) (mg := mg)  F_lspots B
  have G_lspots : Gb K mg "_law_spots" (He.ga K "_law_spots") := ⟨(He.glo_ok X G (c.fact 38 (f := .glo "_law_spots"))), F_lspots.kp⟩
  obtain ⟨d_lseen, F_lseen⟩ := c.def_ 39 (d := gD "_law_seen" sSeenL)
  have R_lseen := ok_seenL (P := P) (w := w) (base := base) (mg := mg)  F_lseen R_low G_low
  have G_lseen : Gb K mg "_law_seen" (He.ga K "_law_seen") := ⟨(He.glo_ok X G (c.fact 39 (f := .glo "_law_seen"))), F_lseen.kp⟩
  obtain ⟨d_lnet, F_lnet⟩ := c.def_ 40 (d := gD "_law_net" sNetL)
  have R_lnet := ok_netL (P := P) (w := w) (base := base) (mg := mg)  F_lnet R_draw G_draw
  have G_lnet : Gb K mg "_law_net" (He.ga K "_law_net") := ⟨(He.glo_ok X G (c.fact 40 (f := .glo "_law_net"))), F_lnet.kp⟩
  obtain ⟨d_kinds, F_kinds⟩ := c.def_ 42 (d := gD "_law_kinds" sKindsL)
  have R_kinds := ok_kindsL (P := P) (w := w) (base := base) (mg := mg)  F_kinds 
  have G_kinds : Gb K mg "_law_kinds" (He.ga K "_law_kinds") := ⟨(He.glo_ok X G (c.fact 42 (f := .glo "_law_kinds"))), F_kinds.kp⟩
  obtain ⟨d_lturned, F_lturned⟩ := c.def_ 41 (d := gD "_law_turned" sTurnedL)
  have R_lturned := ok_turnedL (P := P) (w := w) (base := base) (mg := mg)  F_lturned 
  have G_lturned : Gb K mg "_law_turned" (He.ga K "_law_turned") := ⟨(He.glo_ok X G (c.fact 41 (f := .glo "_law_turned"))), F_lturned.kp⟩
  obtain ⟨d_carried, F_carried⟩ := c.def_ 43 (d := gD "_law_carried" sCarried)
  have R_carried := ok_carried (P := P) (w := w) (base := base) (mg := mg)  F_carried R_lturned G_lturned
  have G_carried : Gb K mg "_law_carried" (He.ga K "_law_carried") := ⟨(He.glo_ok X G (c.fact 43 (f := .glo "_law_carried"))), F_carried.kp⟩
  obtain ⟨d_divisor, F_divisor⟩ := c.def_ 44 (d := gD "_law_divisor" sDivisor)
  have R_divisor := ok_divisor (P := P) (w := w) (base := base) (mg := mg)  F_divisor B
  have G_divisor : Gb K mg "_law_divisor" (He.ga K "_law_divisor") := ⟨(He.glo_ok X G (c.fact 44 (f := .glo "_law_divisor"))), F_divisor.kp⟩
  obtain ⟨d_keeps, F_keeps⟩ := c.def_ 45 (d := gD "_law_keeps" sKeeps)
  have R_keeps := ok_keeps (P := P) (w := w) (base := base) (mg := mg)  F_keeps R_lturned G_lturned R_low G_low
  have G_keeps : Gb K mg "_law_keeps" (He.ga K "_law_keeps") := ⟨(He.glo_ok X G (c.fact 45 (f := .glo "_law_keeps"))), F_keeps.kp⟩
  obtain ⟨d_move, F_move⟩ := c.def_ 46 (d := gD "_law_move" sMoveL)
  have R_move := ok_moveL (P := P) (w := w) (base := base) (mg := mg)  F_move B R_draw G_draw R_kinds G_kinds R_keeps G_keeps
  have G_move : Gb K mg "_law_move" (He.ga K "_law_move") := ⟨(He.glo_ok X G (c.fact 46 (f := .glo "_law_move"))), F_move.kp⟩
  obtain ⟨d_tied, F_tied⟩ := c.def_ 47 (d := gD "_law_tied" sTied)
  have R_tied := ok_tied (P := P) (w := w) (base := base) (mg := mg)  F_tied R_lspots G_lspots R_low G_low R_carried G_carried
  have G_tied : Gb K mg "_law_tied" (He.ga K "_law_tied") := ⟨(He.glo_ok X G (c.fact 47 (f := .glo "_law_tied"))), F_tied.kp⟩
  obtain ⟨d_letters, F_letters⟩ := c.def_ 48 (d := gD "_law_letters" sLetters)
  have R_letters := ok_letters (P := P) (w := w) (base := base) (mg := mg)  F_letters B R_draw G_draw
  have G_letters : Gb K mg "_law_letters" (He.ga K "_law_letters") := ⟨(He.glo_ok X G (c.fact 48 (f := .glo "_law_letters"))), F_letters.kp⟩
  obtain ⟨d_square, F_square⟩ := c.def_ 49 (d := gD "_law_square" sSquare)
  have R_square := ok_square (P := P) (w := w) (base := base) (mg := mg)  F_square B R_draw G_draw
  have G_square : Gb K mg "_law_square" (He.ga K "_law_square") := ⟨(He.glo_ok X G (c.fact 49 (f := .glo "_law_square"))), F_square.kp⟩
  obtain ⟨d_copied, F_copied⟩ := c.def_ 50 (d := gD "_law_copied" sCopied)
  have R_copied := ok_copied (P := P) (w := w) (base := base) (mg := mg)  F_copied R_draw G_draw R_lspots G_lspots R_lseen G_lseen
  have G_copied : Gb K mg "_law_copied" (He.ga K "_law_copied") := ⟨(He.glo_ok X G (c.fact 50 (f := .glo "_law_copied"))), F_copied.kp⟩
  obtain ⟨d_woven, F_woven⟩ := c.def_ 51 (d := gD "_law_woven" sWoven)
  have R_woven := ok_woven (P := P) (w := w) (base := base) (mg := mg)  F_woven B R_draw G_draw R_lnet G_lnet R_letters G_letters R_square G_square R_move G_move R_tied G_tied R_divisor G_divisor R_lspots G_lspots R_copied G_copied
  have G_woven : Gb K mg "_law_woven" (He.ga K "_law_woven") := ⟨(He.glo_ok X G (c.fact 51 (f := .glo "_law_woven"))), F_woven.kp⟩
  obtain ⟨d_tape, F_tape⟩ := c.def_ 33 (d := gD "_law_tape" sTape)
  have R_tape := ok_tape (P := P) (w := w) (base := base) (mg := mg)  F_tape B
  have G_tape : Gb K mg "_law_tape" (He.ga K "_law_tape") := ⟨(He.glo_ok X G (c.fact 33 (f := .glo "_law_tape"))), F_tape.kp⟩
  have SO_on : Ss K (aC K) "on" (He5.wf K (aC K) "staticmethod" "on") := by
    obtain ⟨h1, r, h2⟩ := He5.wrapB_ok x_won
    exact ⟨_, _, r, rdB_ok x_rdC, h1, h2, F_on.kp⟩
  obtain ⟨d_made, F_made⟩ := c.def_ 52 (d := gD "_law_made" sMade)
  have R_made := ok_made (P := P) (w := w) (base := base) (mg := mg)  F_made B NF R_ninit mkN R_draw G_draw R_on SO_on gC (He.keep_ok (c.fact 105 (f := .keep "Carpet"))) R_cinit mkC hC hW
  have G_made : Gb K mg "_law_made" (He.ga K "_law_made") := ⟨(He.glo_ok X G (c.fact 52 (f := .glo "_law_made"))), F_made.kp⟩
  exact ok_law (P := P) (w := w) (base := base) (mg := mg) F B R_tape G_tape R_woven G_woven R_made G_made R_draw G_draw R_kinds G_kinds R_place G_place R_cols b_cols P_colours R_cnet b_cnet P_net R_over G_over R_lay G_lay R_unc G_unc R_rec G_rec R_msk G_msk R_smp G_smp R_enl G_enl R_minit mkM gM R_cmul OMu R_ceq (He.eqO_ok x_weq) M_ceq.fn (He.eqO_ok x_wne) (of_decide_eq_true x_wobj) hW
end Wk
end
section
set_option maxHeartbeats 4000000
/-! The law at the head's heap. -/
namespace Wk
open PySem PySem.Spec PyProof.Rows L2 Cl TL LamX
theorem law_at {w : World} {K : Fr} {mg : Str → Option Value} {h : Heap} (c : Says lawFa lawFn w h K) (X : K.In h) : LawAtS PySem.Challenge.rw_carpets_k38_whole_rules_of_overlays w K C0 11 63 "_law_script" mg (He.ga K "law") h := by
  obtain ⟨fd, F⟩ := c.def_ 53 (d := gD "law" sLaw)
  have b := FunD.bindsA (ps := ["_law_script"]) F fun _ _ _ _ _ _ us hl => match us, hl with | [_], _ => rfl
  refine ⟨fd, tfs.map (He.cT K), spLaw K (tabsK K), ?_, ?_, ?_, fun s v => b s [v] rfl, ?_, ?_⟩
  · intro p hp
    obtain ⟨d, hd, rfl⟩ := List.mem_map.mp hp
    exact c.empty d hd
  · intro p hp
    obtain ⟨d, hd, rfl⟩ := List.mem_map.mp hp
    exact c.out d hd
  · intro p hp
    obtain ⟨d, hd, rfl⟩ := List.mem_map.mp hp
    exact PySem.W.codeHd_of_K X (c.hd d hd)
  · intro H a ns hl _ hT hS
    refine ⟨a, ns, rfl, hS, by omega, ?_, fun _ => rfl⟩
    intro p hp
    have key : ∀ d ∈ tfs, ∀ q, TabS H (He.cT K d).2 q := fun d hd q => TabS.nil (hT _ (List.mem_map.mpr ⟨d, hd, rfl⟩))
    simp only [tabsK, List.mem_cons, List.not_mem_nil, or_false] at hp
    rcases hp with rfl | rfl | rfl | rfl | rfl | rfl
    · exact key ("overlay", none) (by simp [tfs]) _
    · exact key ("layered", none) (by simp [tfs]) _
    · exact key ("masked", none) (by simp [tfs]) _
    · exact key ("uncovered", none) (by simp [tfs]) _
    · exact key ("enlarged", none) (by simp [tfs]) _
    · exact key ("sampled", none) (by simp [tfs]) _
  · intro base X2 G2 TB
    exact all_ok c X2 G2 (fun p hp => TB _ (List.mem_map.mpr ⟨p, hp, rfl⟩)) F
end Wk
end
section
set_option maxHeartbeats 0
open PySem PySem.W PySem.Calls PyProof.Rows
theorem PySem.Challenge.cw_carpets_k38_whole_rules_of_overlays_holds : PySem.Challenge.rw_carpets_k38_whole_rules_of_overlays.Holds := by
  w_on; o_law
  refine HandSHeadRun.head_any (r := OpenLaw.row PySem.Challenge.rw_carpets_k38_whole_rules_of_overlays) (q := Wk.qv) (H := Wk.hk) (ob := Wk.ob) (M := 9000) (loose := Wk.nms) (d := HandSHeadRun.topDef Wk.RR.prog 85) (kwd := []) Wk.obK_eq
    (by kernel_rfl) (fun s => by kernel_rfl) Wk.runs (by kernel_rfl) (by kernel_rfl) (by kernel_rfl) (by rfl) (by first | assumption | decide +kernel) (by decide +kernel) ⟨rfl, rfl, rfl, rfl, rfl, by decide +kernel⟩ ?hw ?hc
  case hw => w_witness2
  case hc =>
    refine LamX.walk_ofTsE (l := PySem.Challenge.rw_carpets_k38_whole_rules_of_overlays) (n := 63) (k := 11) (x := "_law_script") (CX := fun _ => Cl.C0) rfl (by decide) (by kernel_rfl) ⟨rfl, by decide, by decide⟩ ?F (fun _ _ _ _ _ z => z)
    intro w mg fa h Y G hmg0
    obtain ⟨K, KX, c⟩ := Y
    have hmg : mg ("law" : PySem.Str) = some (.ref fa) := by
      have e : (HandSHeadRun.topDef Wk.RR.prog 85).name = ("law" : PySem.Str) := by kernel_rfl
      rw [← e]
      exact hmg0
    have hl := He.glo_ok KX G (c.fact 53 (f := .glo "law"))
    rw [hmg] at hl
    cases hl
    exact ⟨K, KX, Wk.law_at c KX⟩
end
