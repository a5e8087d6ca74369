import PyProof.Rows.All
import Wide.All
import OpenK.AllK
import Wide.FinOn
import KE.KStateDown
import HandS.ForMost
import HandS.More
import HandS.Flow
import HandS.Style
import HandS.Wide
import HandS.WideBits
import HandS.IsInst
import HandS.Defaults
import HandS.FStr
import HandS.DictComp
import HandS.Walk
import HandS.Exc
import HandS.WordsExc
import HandS.Head0
import HandS.Head1
import HandS.Head2
import HandS.HeadEnd
import HandS.HeadHook1
import HandS.HeadHook2
import PyProof.ReprRoads
import KE.GoesEnum
import KE.GoesMore
import HandS.TupAny
import HandS.RaiseMore
import PyProof.StrLawsRepr
import PyProof.StrOps2
import PyProof.StrBlockL
import PyProof.Rows.RegStrFacts
import HandS.MakeKw
import HandS.TupMul
import HandS.SortKw
import OpenK.KOps
import KE.KCallOwn
import KE.KEqDict
import HandS.TupSets
import KE.KSortTupAny
import PyProof.InstNe
import HandS.Text
import KE.DataMinMax
import HandS.Lambda
import HandS.ExcInit
import HandS.ExcIs
import HandS.ExcField
import HandS.HotCalls
import HandS.EndTab
import HandS.HeadHook4
import HandS.SetFor
import HandS.TryOnly
import HandS.ExcValue
import PySem.Challenge.RW_tallyplans_k02_errors_of_counts
set_option Elab.async false
set_option linter.all false
set_option maxRecDepth 100000
set_option maxHeartbeats 4000000
namespace TP
class StepX (G : Prop) (P : outParam Prop) : Prop where
  go : P → G
end TP
namespace TP
open PySem PySem.Spec PyProof.Rows L2
section
variable {X : Cx} {CX : CXT} {k : Nat} {f : Addr} {fd : FuncData} {ps ks : List Str} {sp : Sp} {E : XK} {x : Str} {st : Stmt} {p pos : Pos} {e : Expr} {es : List Expr} {kws : List Keyword} {t tk : TA}
def PosB (x : Str) (st : Stmt) (ps : List Str) : Prop := ∀ (kV doc pm : Value) (an : Option Addr) (cdv ct : Value) (us : List Value), us.length = ps.length →
  bindArgs (PySem.W.fnOf x x (defArgs st) (defBody st) (defScope st) .none kV doc pm an cdv ct) ⟨us, []⟩ = pure (ps.zip us)
end
end TP
namespace TP
open PySem PySem.Spec PyProof.Rows L2
def SameT (H H' : Hp) : Prop := ∀ a o, H a = some o → (∀ xs, o ≠ .lst xs) → (∀ kvs, o ≠ .dK kvs) → H' a = some o
theorem same_t {H H' : Hp} (s : Same H H') : SameT H H' := fun a o h _ _ => s a o h
theorem SameT.trans {H H1 H2 : Hp} (a : SameT H H1) (b : SameT H1 H2) : SameT H H2 := fun c o h n m => b c o (a c o h n m) n m
theorem SameT.lst {H : Hp} {l : Addr} {xs : List V} {u : HO} (h : H l = some (.lst xs)) : SameT H (upd H l u) := fun a o e n _ => by
  by_cases z : a = l
  · subst z; rw [h] at e; cases e; exact absurd rfl (n xs)
  · exact (upd_ne z).trans e
theorem SameT.sqt {K : PySem.W.Frag} {H H' : Hp} {a : Addr} {xs : List V} (s : SameT H H') (h : SqT K H a xs) : SqT K H' a xs := by
  rcases h with (h | ⟨o, h⟩) | h
  · exact .inl (.inl (s _ _ h (fun _ => nofun) fun _ => nofun))
  · exact .inl (.inr ⟨o, s _ _ h (fun _ => nofun) fun _ => nofun⟩)
  · exact .inr h
theorem sqt_same {K : PySem.W.Frag} {H H' : Hp} {a : Addr} {xs : List V} (s : Same H H') (h : SqT K H a xs) : SqT K H' a xs := (same_t s).sqt h
mutual
theorem dp_same {K : PySem.W.Frag} {H H' : Hp} (s : Same H H') : ∀ {v : V} {d : PyData}, Dp K H v d → Dp K H' v d
  | _, _, .non => .non
  | _, _, .bl b => .bl b
  | _, _, .int i => .int i
  | _, _, .str x => .str x
  | _, _, .lst h r => .lst (s.seq h) (dps_same s r)
  | _, _, .tup h r => .tup (sqt_same s h) (dps_same s r)
theorem dps_same {K : PySem.W.Frag} {H H' : Hp} (s : Same H H') : ∀ {vs : List V} {ds : List PyData}, DpAll K H vs ds → DpAll K H' vs ds
  | _, _, .nil => .nil
  | _, _, .cons h r => .cons (dp_same s h) (dps_same s r)
end
mutual
def flatD : PyData → Bool
  | .list _ => false
  | .dict _ => false
  | .tuple ds => flatDs ds
  | _ => true
def flatDs : List PyData → Bool
  | [] => true
  | d :: r => flatD d && flatDs r
end
mutual
theorem dp_flat {K : PySem.W.Frag} {H H' : Hp} (s : SameT H H') : ∀ {v : V} {d : PyData}, Dp K H v d → flatD d = true → Dp K H' v d
  | _, _, .non, _ => .non
  | _, _, .bl b, _ => .bl b
  | _, _, .int i, _ => .int i
  | _, _, .str x, _ => .str x
  | _, _, .lst h r, f => by simp [flatD] at f
  | _, _, .tup h r, f => .tup (s.sqt h) (dps_flat s r (by simpa [flatD] using f))
theorem dps_flat {K : PySem.W.Frag} {H H' : Hp} (s : SameT H H') : ∀ {vs : List V} {ds : List PyData}, DpAll K H vs ds → flatDs ds = true → DpAll K H' vs ds
  | _, _, .nil, _ => .nil
  | _, _, .cons h r, f => by
    have f2 := Bool.and_eq_true_iff.mp (show (flatD _ && flatDs _) = true from f)
    exact .cons (dp_flat s h f2.1) (dps_flat s r f2.2)
end
end TP
namespace TP
open PySem PySem.Spec PyProof.Rows L2
mutual
def rb : PyData → Nat
  | .none => 5
  | .bool _ => 5
  | .int _ => 1921
  | .str x => 10 * x.length + 2
  | .list ds => rbs ds + 2
  | .tuple ds => rbs ds + 3
  | .dict _ => 0
def rbs : List PyData → Nat
  | [] => 0
  | d :: r => rb d + 2 + rbs r
end
mutual
def okD : PyData → Bool
  | .none => true
  | .bool _ => true
  | .int i => decide (i.natAbs.log2 < 1920)
  | .str x => x.cps.toList.all fun c => decide (c < 16 ^ 8)
  | .list ds => okDs ds
  | .tuple ds => okDs ds
  | .dict _ => false
def okDs : List PyData → Bool
  | [] => true
  | d :: r => okD d && okDs r
end
theorem str_app_len (a b : Str) : (a ++ b).length = a.length + b.length := PySem.Str.length_append a b
theorem textFrom_le : ∀ (ts : List Str) (k : Nat) (acc : Str), (textFrom k acc ts).length ≤ acc.length + (ts.map fun t => t.length + 2).sum
  | [], k, acc => by simp [textFrom]
  | t :: r, k, acc => by
    have ih := textFrom_le r (k + 1) (acc ++ (if k > 0 then ", " else "" : String) ++ t)
    rw [str_app_len, str_app_len] at ih
    have e : (Str.ofString (if k > 0 then ", " else "" : String)).length ≤ 2 := by
      by_cases h : k > 0
      · rw [if_pos h]; decide
      · rw [if_neg h]; decide
    simp only [List.map_cons, List.sum_cons]
    show (textFrom (k + 1) _ r).length ≤ _
    omega
mutual
theorem shown_le : ∀ d : PyData, okD d = true → d.shown.length ≤ rb d
  | .none, _ => by simp only [PyData.shown, rb]; decide
  | .bool b, _ => by cases b <;> simp only [PyData.shown, rb] <;> decide
  | .int i, h => by
    have h' : i.natAbs.log2 < 1920 := of_decide_eq_true (by simpa [okD] using h)
    simp only [PyData.shown, rb]
    exact int_text_len_1921 h'
  | .str x, h => by
    simp only [PyData.shown, rb]
    refine PySem.StrLaws.reprText_len x fun c hc => ?_
    have h' := List.all_eq_true.mp (by simpa only [okD] using h) c hc
    exact of_decide_eq_true h'
  | .list ds, h => by
    have ih := shownAll_le ds (by simpa [okD] using h)
    simp only [PyData.shown, rb, listText]
    have h1 := textFrom_le (PyData.shownAll ds) 0 "["
    rw [str_app_len]
    have e1 : (Str.ofString "[").length = 1 := by decide
    have e2 : (Str.ofString "]").length = 1 := by decide
    rw [e1] at h1
    rw [e2]
    omega
  | .tuple ds, h => by
    have ih := shownAll_le ds (by simpa [okD] using h)
    simp only [PyData.shown, rb, tupleText]
    rw [str_app_len, str_app_len]
    have h1 := StrLaws.join_length_le (Str.ofString ", ") (PyData.shownAll ds)
    have e0 : (Str.ofString ", ").length = 2 := by decide
    rw [e0] at h1
    have e1 : (Str.ofString "(").length = 1 := by decide
    have e2 : (Str.ofString (if ((PyData.shownAll ds).length == 1) = true then ",)" else ")")).length ≤ 2 := by
      by_cases z : ((PyData.shownAll ds).length == 1) = true
      · rw [if_pos z]; decide
      · rw [if_neg z]; decide
    have e3 : ((PyData.shownAll ds).map fun t => t.length + 2).sum = ((PyData.shownAll ds).map (·.length)).sum + (PyData.shownAll ds).length * 2 := by
      generalize PyData.shownAll ds = l
      induction l with
      | nil => rfl
      | cons a r ih2 => simp only [List.map_cons, List.sum_cons, List.length_cons]; omega
    rw [e1]
    omega
  | .dict _, h => by simp [okD] at h
theorem shownAll_le : ∀ ds : List PyData, okDs ds = true → ((PyData.shownAll ds).map fun t => t.length + 2).sum ≤ rbs ds
  | [], _ => by simp [PyData.shownAll, rbs]
  | d :: r, h => by
    have h' := Bool.and_eq_true_iff.mp (show (okD d && okDs r) = true from h)
    have h1 := shown_le d h'.1
    have h2 := shownAll_le r h'.2
    simp only [PyData.shownAll, rbs, List.map_cons, List.sum_cons]
    omega
end
mutual
theorem showable_of : ∀ d : PyData, okD d = true → d.showable = true ∧ d.hasDict = false
  | .none, _ => by simp [PyData.showable, PyData.hasDict]
  | .bool b, _ => by simp [PyData.showable, PyData.hasDict]
  | .int i, h => by simp only [PyData.showable, PyData.hasDict]; exact ⟨by simpa [okD] using h, trivial⟩
  | .str x, _ => by simp [PyData.showable, PyData.hasDict]
  | .list ds, h => by
    have ih := showables_of ds (by simpa [okD] using h)
    simp only [PyData.showable, PyData.hasDict]; exact ih
  | .tuple ds, h => by
    have ih := showables_of ds (by simpa [okD] using h)
    simp only [PyData.showable, PyData.hasDict]; exact ih
  | .dict _, h => by simp [okD] at h
theorem showables_of : ∀ ds : List PyData, okDs ds = true → PyData.showableAll ds = true ∧ PyData.hasDictAll ds = false
  | [], _ => by simp [PyData.showableAll, PyData.hasDictAll]
  | d :: r, h => by
    have h' := Bool.and_eq_true_iff.mp (show (okD d && okDs r) = true from h)
    have h1 := showable_of d h'.1
    have h2 := showables_of r h'.2
    simp [PyData.showableAll, PyData.hasDictAll, h1, h2]
end
end TP
namespace TP
open PySem PySem.Spec PyProof.Rows L2
mutual
def szD : PyData → Bool
  | .str x => decide (x.length ≤ 100000)
  | .list ds => szDs ds
  | .tuple ds => szDs ds
  | _ => true
def szDs : List PyData → Bool
  | [] => true
  | d :: r => szD d && szDs r
end
def ltS (x y : Str) : Prop := x.cps.toList < y.cps.toList
instance (x y : Str) : Decidable (ltS x y) := inferInstanceAs (Decidable (x.cps.toList < y.cps.toList))
abbrev Bag := List (Str × Int)
def getT (t : Bag) (n : Str) : Int := ((t.find? fun p => decide (p.1 = n)).map (·.2)).getD 0
def putT (t : Bag) (n : Str) (c : Int) : Bag := if (t.any fun p => decide (p.1 = n)) = true then t.map (fun p => if p.1 = n then (p.1, c) else p) else t ++ [(n, c)]
end TP
namespace TP
open PySem PySem.Spec PyProof.Rows L2
def minL : List Int → Int
  | [] => 0
  | [a] => a
  | a :: b :: r => if a ≤ minL (b :: r) then a else minL (b :: r)
abbrev keys (t : Bag) : List Str := t.map (·.1)
def minV (t : Bag) : Int := minL (t.map (·.2))
end TP
namespace TP
open PySem PySem.Spec PyProof.Rows L2
def SameU (H H' : Hp) : Prop := ∀ a o, H a = some o → ((∃ xs, o = .tup xs) ∨ ∃ ob xs, o = .frz ob (.tup xs)) → H' a = some o
theorem SameU.sqt {K : PySem.W.Frag} {H H' : Hp} {a : Addr} {xs : List V} (s : SameU H H') (h : SqT K H a xs) : SqT K H' a xs := by
  rcases h with (h | ⟨o, h⟩) | h
  · exact .inl (.inl (s _ _ h (.inl ⟨_, rfl⟩)))
  · exact .inl (.inr ⟨o, s _ _ h (.inr ⟨_, _, rfl⟩)⟩)
  · exact .inr h
mutual
theorem dp_flatU {K : PySem.W.Frag} {H H' : Hp} (s : SameU H H') : ∀ {v : V} {d : PyData}, Dp K H v d → flatD d = true → Dp K H' v d
  | _, _, .non, _ => .non
  | _, _, .bl b, _ => .bl b
  | _, _, .int i, _ => .int i
  | _, _, .str x, _ => .str x
  | _, _, .lst h r, f => by simp [flatD] at f
  | _, _, .tup h r, f => .tup (s.sqt h) (dps_flatU s r (by simpa [flatD] using f))
theorem dps_flatU {K : PySem.W.Frag} {H H' : Hp} (s : SameU H H') : ∀ {vs : List V} {ds : List PyData}, DpAll K H vs ds → flatDs ds = true → DpAll K H' vs ds
  | _, _, .nil, _ => .nil
  | _, _, .cons h r, f => by
    have f2 := Bool.and_eq_true_iff.mp (show (flatD _ && flatDs _) = true from f)
    exact .cons (dp_flatU s h f2.1) (dps_flatU s r f2.2)
end
theorem SameU.trans {H H1 H2 : Hp} (a : SameU H H1) (b : SameU H1 H2) : SameU H H2 := fun c o h n => b c o (a c o h n) n
end TP
namespace TP
open PySem PySem.Spec PyProof.Rows L2
section
variable {K : PySem.W.Frag} {H : Hp} {Q : VK} {a : Addr}
def dropT (t : Bag) (n : Str) : Bag := t.filter fun p => decide (p.1 ≠ n)
end
end TP
namespace TP
open PySem PySem.Spec PyProof.Rows L2
open Classical in
noncomputable def minN (l : List Str) : Str := if h : ∃ m, m ∈ l ∧ ∀ y ∈ l, ¬ ltS y m then Classical.choose h else Str.empty
def losersT (t : Bag) : List Str := (t.filter fun p => decide (p.2 = minV t)).map (·.1)
noncomputable def loserT (t : Bag) : Str := minN (losersT t)
open Classical in
noncomputable def plcT (c : Int) (t : Bag) (n : Str) (m : Int) : Bag :=
  if n ∈ keys t then putT t n (getT t n + m) else if (t.length : Int) = c then dropT t (loserT t) ++ [(n, minV t + m)] else t ++ [(n, m)]
noncomputable def plcs (c : Int) (t : Bag) (rs : Bag) : Bag := rs.foldl (fun t r => plcT c t r.1 r.2) t
end TP
namespace TPE
open PySem
inductive XB | ve | le | ae
def XB.nm : XB → String
  | .ve => "ValueError"
  | .le => "LookupError"
  | .ae => "ArithmeticError"
def XB.nw : XB → String
  | .ve => "ValueError.__new__"
  | .le => "LookupError.__new__"
  | .ae => "ArithmeticError.__new__"
def XB.it : XB → String
  | .ve => "ValueError.__init__"
  | .le => "LookupError.__init__"
  | .ae => "ArithmeticError.__init__"
abbrev XB.tl (b : XB) : List Value := [.type b.nm, .type "Exception", .type "BaseException", .type "object"]
theorem base (b : XB) : ExcBaseFacts b.nm b.nw b.it b.tl := by
  cases b
  · exact F.excBase_ValueError
  · exact F.excBase_LookupError
  · exact F.excBase_ArithmeticError
def refsXB (b : XB) : List Value → Bool
  | .ref _ :: r => refsXB b r
  | l => l == b.tl
end TPE
namespace TP
open PySem PySem.Spec PyProof.Rows L2
def oexS (K : PySem.W.Frag) (C : Addr) : Bool := match K.lookup C with
  | some ⟨.type "type", _, .cls cd, sl⟩ => (match cd.mro, sl.toList with
    | .ref C' :: bm, [_, _, _, _, some (.builtin n), _] => C' == C && ((n == "ValueError.__new__" && TPE.refsXB .ve bm || (n == "LookupError.__new__" && TPE.refsXB .le bm || n == "ArithmeticError.__new__" && TPE.refsXB .ae bm)) && (!cd.hasDel && cd.hasDict))
    | _, _ => false)
  | _ => false
def exkB (K : PySem.W.Frag) (C f : Str) : Bool :=
  (He.Fa.glo C).ok K && (oexS K (He.ga K C) && (He.eqO (PySem.W.findIn K (.ref (He.ga K C)) "__setattr__") (some (some (.builtin "object.__setattr__"))) && (decide (PySem.W.subIn K (.ref (He.ga K C)) (.type "BaseException") = some true) && (decide (PySem.W.typeIn K (.ref (He.ga K C)) = some (.type "type")) &&
    (PySem.W.keepIn K (.ref (He.ga K C)) && (He.eqO (PySem.W.findIn K (.ref (He.ga K C)) f) (some none) && (He.eqO (PySem.W.findIn K (.ref (He.ga K C)) "__init__") (some (some (.ref (He.ma K (He.ga K C) "__init__")))) &&
    (decide (PySem.W.typeIn K (.ref (He.ma K (He.ga K C) "__init__")) = some (.type "function")) && (He.eqO (PySem.W.findIn K (.ref (He.ga K C)) "__getattribute__") (some (some (.builtin "BaseException.__getattribute__"))) &&
    (He.eqO (PySem.W.findIn K (.ref (He.ga K C)) "__getattr__") (some none) && (PySem.W.hasDictIn K (He.ga K C) && (He.eqO (PySem.W.findIn K (.ref (He.ga K C)) "__class__") (some (some (.builtin "object.__class__"))) &&
    (He.eqO (PySem.W.specialIn K (.builtin "object.__class__") "__get__") (some (some (.builtin "getset_descriptor.__get__"))) && (decide (PySem.W.takesIn K (.builtin "object.__class__") = some true) && decide (PySem.W.mroIn K (He.ga K C) (.type "object") = some true)))))))))))))))
end TP
namespace TP
open PySem PySem.Spec PyProof.Rows L2 LamX
abbrev ExE := Str × Str × Str
def exTab : List ExE := [("InvalidCapacity", "capacity", "capacity"), ("InvalidName", "name", "name"), ("InvalidTimes", "times", "times"), ("InvalidCounts", "index", "counts"), ("InvalidSummary", "index", "summary"), ("InvalidOrder", "index", "order"), ("InvalidPlan", "index", "plan"), ("InvalidText", "text", "text"),
  ("InvalidSize", "size", "size"), ("InvalidNumber", "number", "number"), ("InvalidSlots", "slots", "slots"), ("InvalidIndex", "index", "index"), ("InvalidAction", "index", "action"), ("InvalidLine", "line", "line"), ("NotASummary", "value", "notsummary"),
  ("CapacitiesDiffer", "capacity", "differ"), ("TooManyNames", "found", "names"), ("TooManyActions", "found", "actions")]
def exTabA : List ExE := exTab ++ ([("Busy", "", "busy"), ("NothingToUndo", "", "undo")] : List ExE)
end TP
namespace TP
open PySem PySem.Spec PyProof.Rows L2
def exLeaf : List Str := ["InvalidCapacity", "InvalidName", "InvalidTimes", "InvalidCounts", "InvalidSummary", "InvalidOrder", "InvalidPlan", "InvalidText", "InvalidSize", "InvalidNumber", "InvalidSlots", "InvalidIndex", "InvalidAction", "InvalidLine", "NotASummary", "CapacitiesDiffer", "Busy", "NothingToUndo", "TooManyNames", "TooManyActions"]
def exBase : List Str := ["TallyError", "StateError", "SizeError"]
def exFlds : List Str := ["capacity", "name", "times", "index", "text", "size", "number", "slots", "line", "value", "found"]
def exSup (C : Str) : Str := if C = "CapacitiesDiffer" then "StateError" else if C = "Busy" then "StateError" else if C = "NothingToUndo" then "StateError" else if C = "TooManyNames" then "SizeError" else if C = "TooManyActions" then "SizeError" else "TallyError"
def exIs (e : ExE) (C : Str) : Bool := decide (C = e.1) || decide (C = exSup e.1)
def exhB (K : PySem.W.Frag) (C : Str) : Bool :=
  decide (PySem.W.subIn K (.ref (He.ga K C)) (.type "BaseException") = some true) && (He.eqO (PySem.W.findIn K (.ref (He.ga K C)) "__getattribute__") (some (some (.builtin "BaseException.__getattribute__"))) &&
    (He.eqO (PySem.W.findIn K (.ref (He.ga K C)) "__getattr__") (some none) && (PySem.W.hasDictIn K (He.ga K C) && (He.eqO (PySem.W.findIn K (.ref (He.ga K C)) "__class__") (some (some (.builtin "object.__class__"))) &&
    (He.eqO (PySem.W.specialIn K (.builtin "object.__class__") "__get__") (some (some (.builtin "getset_descriptor.__get__"))) && (decide (PySem.W.takesIn K (.builtin "object.__class__") = some true) && decide (PySem.W.mroIn K (He.ga K C) (.type "object") = some true)))))))
def exfB (K : PySem.W.Frag) : Bool :=
  exTabA.all (fun e => exhB K e.1) && ((exLeaf ++ exBase).all (fun C => (He.Fa.glo C).ok K) && (exTabA.all (fun e => (exLeaf ++ exBase).all fun C => decide (PySem.W.kitOne K (.ref (He.ga K e.1)) (.ref (He.ga K C)) = some (exIs e C))) &&
    (exTabA.all (fun e => decide (PySem.W.kitOne K (.ref (He.ga K e.1)) (.type "ValueError") = some (exIs e "TallyError")) && (decide (PySem.W.kitOne K (.ref (He.ga K e.1)) (.type "LookupError") = some (exIs e "StateError")) && decide (PySem.W.kitOne K (.ref (He.ga K e.1)) (.type "ArithmeticError") = some (exIs e "SizeError")))) &&
    (exTabA.all (fun e => exFlds.all fun f => He.eqO (PySem.W.findIn K (.ref (He.ga K e.1)) f) (some none)) && (exTabA.all (fun e => decide (PySem.W.exmAny K (.ref (He.ga K e.1)) [.ref (He.ga K "TallyError"), .ref (He.ga K "StateError"), .ref (He.ga K "SizeError")] = some true)) &&
    ((He.Fa.free "ValueError").ok K && ((He.Fa.free "LookupError").ok K && (He.Fa.free "ArithmeticError").ok K)))))))
def ex0B (K : PySem.W.Frag) (C : Str) : Bool := (He.Fa.glo C).ok K && (PySem.W.excIn K (He.ga K C) (TPE.XB.tl .le) (TPE.XB.nw .le) && (PySem.W.keepIn K (.ref (He.ga K C)) && (decide (PySem.W.subIn K (.ref (He.ga K C)) (.type "BaseException") = some true) && decide (PySem.W.typeIn K (.ref (He.ga K C)) = some (.type "type")))))
end TP
namespace TP
open PySem PySem.Spec PyProof.Rows L2 LamX
def top (i : Nat) : Stmt := PySem.Challenge.pw_tallyplans_k02_errors_of_counts.main.body.getD i (.Pass ⟨0, 0, 0, 0⟩)
abbrev tabs (K : PySem.W.Frag) : List (Addr × Str) := [((He.cT K ("_law_one_right", none)).2, "_law_one_right.<locals>.<lambda>"), ((He.cT K ("_law_right", none)).2, "_law_right.<locals>.<lambda>")]
theorem tm__law_one_right (K : PySem.W.Frag) : ((He.cT K ("_law_one_right", none)).2, ("_law_one_right.<locals>.<lambda>" : Str)) ∈ tabs K := List.mem_cons_self
theorem tm__law_right (K : PySem.W.Frag) : ((He.cT K ("_law_right", none)).2, ("_law_right.<locals>.<lambda>" : Str)) ∈ tabs K := (List.mem_cons_of_mem _ List.mem_cons_self)
abbrev s_is_whole : Stmt := top 27
abbrev s_is_from : Stmt := top 28
abbrev s_is_name : Stmt := top 29
abbrev s_is_run : Stmt := top 30
abbrev s_first_invalid : Stmt := top 32
abbrev s_is_counts : Stmt := top 33
abbrev s_check_counts : Stmt := top 34
abbrev s_check_name : Stmt := top 35
abbrev s_sum_of : Stmt := top 36
abbrev s_table_of : Stmt := top 37
abbrev s_counts_of_table : Stmt := top 38
abbrev s_total : Stmt := top 39
abbrev s_count_of : Stmt := top 40
abbrev s_added : Stmt := top 41
abbrev s__law_cell : Stmt := top 43
abbrev s__law_pool : Stmt := top 44
abbrev s__law_draw : Stmt := top 45
abbrev s__law_words : Stmt := top 46
abbrev s__law_often : Stmt := top 47
abbrev s__law_bag : Stmt := top 48
abbrev s__law_kind : Stmt := top 49
abbrev s__law_fields : Stmt := top 50
abbrev s__law_other_fields : Stmt := top 51
abbrev s__law_pair : Stmt := top 53
abbrev s__law_due : Stmt := top 54
abbrev s__law_odd : Stmt := top 55
abbrev s__law_one_right : Stmt := top 56
abbrev s__law_right : Stmt := top 57
abbrev s__law_created_right : Stmt := top 58
abbrev s__law_read_errors : Stmt := top 59
abbrev s__law_created_by_name : Stmt := top 60
abbrev s_law : Stmt := top 61
abbrev s__law_caught : Stmt := top 52
theorem sc__law_caught : FnScope ["_law_call", "_law_e"] ["_law_call"] (defScope s__law_caught) := ⟨rfl, rfl, rfl, by decide +kernel, rfl, by decide +kernel, by decide +kernel⟩
theorem pb__law_caught : PosB "_law_caught" s__law_caught ["_law_call"] := fun _ _ _ _ _ _ us hl => match us, hl with | [_], _ => rfl
abbrev s_InvalidCounts___init__ : Stmt := inClass (top 5) 0
theorem sc_InvalidCounts___init__ : FnScope ["self", "index"] ["self", "index"] (defScope s_InvalidCounts___init__) := ⟨rfl, rfl, rfl, by decide +kernel, rfl, by decide +kernel, by decide +kernel⟩
abbrev s_InvalidName___init__ : Stmt := inClass (top 3) 0
theorem sc_InvalidName___init__ : FnScope ["self", "name"] ["self", "name"] (defScope s_InvalidName___init__) := ⟨rfl, rfl, rfl, by decide +kernel, rfl, by decide +kernel, by decide +kernel⟩
abbrev s_TooManyNames___init__ : Stmt := inClass (top 22) 0
theorem sc_TooManyNames___init__ : FnScope ["self", "found"] ["self", "found"] (defScope s_TooManyNames___init__) := ⟨rfl, rfl, rfl, by decide +kernel, rfl, by decide +kernel, by decide +kernel⟩
abbrev s_InvalidOrder___init__ : Stmt := inClass (top 7) 0
theorem sc_InvalidOrder___init__ : FnScope ["self", "index"] ["self", "index"] (defScope s_InvalidOrder___init__) := ⟨rfl, rfl, rfl, by decide +kernel, rfl, by decide +kernel, by decide +kernel⟩
abbrev s_InvalidSummary___init__ : Stmt := inClass (top 6) 0
theorem sc_InvalidSummary___init__ : FnScope ["self", "index"] ["self", "index"] (defScope s_InvalidSummary___init__) := ⟨rfl, rfl, rfl, by decide +kernel, rfl, by decide +kernel, by decide +kernel⟩
abbrev s_InvalidTimes___init__ : Stmt := inClass (top 4) 0
theorem sc_InvalidTimes___init__ : FnScope ["self", "times"] ["self", "times"] (defScope s_InvalidTimes___init__) := ⟨rfl, rfl, rfl, by decide +kernel, rfl, by decide +kernel, by decide +kernel⟩
abbrev s_InvalidCapacity___init__ : Stmt := inClass (top 2) 0
theorem sc_InvalidCapacity___init__ : FnScope ["self", "capacity"] ["self", "capacity"] (defScope s_InvalidCapacity___init__) := ⟨rfl, rfl, rfl, by decide +kernel, rfl, by decide +kernel, by decide +kernel⟩
abbrev s_InvalidSlots___init__ : Stmt := inClass (top 12) 0
theorem sc_InvalidSlots___init__ : FnScope ["self", "slots"] ["self", "slots"] (defScope s_InvalidSlots___init__) := ⟨rfl, rfl, rfl, by decide +kernel, rfl, by decide +kernel, by decide +kernel⟩
abbrev s_InvalidNumber___init__ : Stmt := inClass (top 11) 0
theorem sc_InvalidNumber___init__ : FnScope ["self", "number"] ["self", "number"] (defScope s_InvalidNumber___init__) := ⟨rfl, rfl, rfl, by decide +kernel, rfl, by decide +kernel, by decide +kernel⟩
abbrev s_InvalidSize___init__ : Stmt := inClass (top 10) 0
theorem sc_InvalidSize___init__ : FnScope ["self", "size"] ["self", "size"] (defScope s_InvalidSize___init__) := ⟨rfl, rfl, rfl, by decide +kernel, rfl, by decide +kernel, by decide +kernel⟩
abbrev s_InvalidText___init__ : Stmt := inClass (top 9) 0
theorem sc_InvalidText___init__ : FnScope ["self", "text"] ["self", "text"] (defScope s_InvalidText___init__) := ⟨rfl, rfl, rfl, by decide +kernel, rfl, by decide +kernel, by decide +kernel⟩
abbrev s_InvalidPlan___init__ : Stmt := inClass (top 8) 0
theorem sc_InvalidPlan___init__ : FnScope ["self", "index"] ["self", "index"] (defScope s_InvalidPlan___init__) := ⟨rfl, rfl, rfl, by decide +kernel, rfl, by decide +kernel, by decide +kernel⟩
abbrev s_CapacitiesDiffer___init__ : Stmt := inClass (top 18) 0
theorem sc_CapacitiesDiffer___init__ : FnScope ["self", "capacity"] ["self", "capacity"] (defScope s_CapacitiesDiffer___init__) := ⟨rfl, rfl, rfl, by decide +kernel, rfl, by decide +kernel, by decide +kernel⟩
abbrev s_NotASummary___init__ : Stmt := inClass (top 16) 0
theorem sc_NotASummary___init__ : FnScope ["self", "value"] ["self", "value"] (defScope s_NotASummary___init__) := ⟨rfl, rfl, rfl, by decide +kernel, rfl, by decide +kernel, by decide +kernel⟩
abbrev s_InvalidLine___init__ : Stmt := inClass (top 15) 0
theorem sc_InvalidLine___init__ : FnScope ["self", "line"] ["self", "line"] (defScope s_InvalidLine___init__) := ⟨rfl, rfl, rfl, by decide +kernel, rfl, by decide +kernel, by decide +kernel⟩
abbrev s_InvalidAction___init__ : Stmt := inClass (top 14) 0
theorem sc_InvalidAction___init__ : FnScope ["self", "index"] ["self", "index"] (defScope s_InvalidAction___init__) := ⟨rfl, rfl, rfl, by decide +kernel, rfl, by decide +kernel, by decide +kernel⟩
abbrev s_InvalidIndex___init__ : Stmt := inClass (top 13) 0
theorem sc_InvalidIndex___init__ : FnScope ["self", "index"] ["self", "index"] (defScope s_InvalidIndex___init__) := ⟨rfl, rfl, rfl, by decide +kernel, rfl, by decide +kernel, by decide +kernel⟩
abbrev s_TooManyActions___init__ : Stmt := inClass (top 23) 0
theorem sc_TooManyActions___init__ : FnScope ["self", "found"] ["self", "found"] (defScope s_TooManyActions___init__) := ⟨rfl, rfl, rfl, by decide +kernel, rfl, by decide +kernel, by decide +kernel⟩
def d_is_whole : He.DefD := ⟨("is_whole", none), "is_whole", "is_whole", defArgs s_is_whole, defBody s_is_whole, defScope s_is_whole, [], []⟩
def d_is_from : He.DefD := ⟨("is_from", none), "is_from", "is_from", defArgs s_is_from, defBody s_is_from, defScope s_is_from, [], []⟩
def d_is_name : He.DefD := ⟨("is_name", none), "is_name", "is_name", defArgs s_is_name, defBody s_is_name, defScope s_is_name, [], []⟩
def d_is_run : He.DefD := ⟨("is_run", none), "is_run", "is_run", defArgs s_is_run, defBody s_is_run, defScope s_is_run, [], []⟩
def d_first_invalid : He.DefD := ⟨("first_invalid", none), "first_invalid", "first_invalid", defArgs s_first_invalid, defBody s_first_invalid, defScope s_first_invalid, [], []⟩
def d_is_counts : He.DefD := ⟨("is_counts", none), "is_counts", "is_counts", defArgs s_is_counts, defBody s_is_counts, defScope s_is_counts, [], []⟩
def d_check_counts : He.DefD := ⟨("check_counts", none), "check_counts", "check_counts", defArgs s_check_counts, defBody s_check_counts, defScope s_check_counts, [], []⟩
def d_check_name : He.DefD := ⟨("check_name", none), "check_name", "check_name", defArgs s_check_name, defBody s_check_name, defScope s_check_name, [], []⟩
def d_sum_of : He.DefD := ⟨("sum_of", none), "sum_of", "sum_of", defArgs s_sum_of, defBody s_sum_of, defScope s_sum_of, [], []⟩
def d_table_of : He.DefD := ⟨("table_of", none), "table_of", "table_of", defArgs s_table_of, defBody s_table_of, defScope s_table_of, [], []⟩
def d_counts_of_table : He.DefD := ⟨("counts_of_table", none), "counts_of_table", "counts_of_table", defArgs s_counts_of_table, defBody s_counts_of_table, defScope s_counts_of_table, [], []⟩
def d_total : He.DefD := ⟨("total", none), "total", "total", defArgs s_total, defBody s_total, defScope s_total, [], []⟩
def d_count_of : He.DefD := ⟨("count_of", none), "count_of", "count_of", defArgs s_count_of, defBody s_count_of, defScope s_count_of, [], []⟩
def d_added : He.DefD := ⟨("added", none), "added", "added", defArgs s_added, defBody s_added, defScope s_added, [], []⟩
def d__law_cell : He.DefD := ⟨("_law_cell", none), "_law_cell", "_law_cell", defArgs s__law_cell, defBody s__law_cell, defScope s__law_cell, [], []⟩
def d__law_pool : He.DefD := ⟨("_law_pool", none), "_law_pool", "_law_pool", defArgs s__law_pool, defBody s__law_pool, defScope s__law_pool, [], []⟩
def d__law_draw : He.DefD := ⟨("_law_draw", none), "_law_draw", "_law_draw", defArgs s__law_draw, defBody s__law_draw, defScope s__law_draw, [], []⟩
def d__law_words : He.DefD := ⟨("_law_words", none), "_law_words", "_law_words", defArgs s__law_words, defBody s__law_words, defScope s__law_words, [], []⟩
def d__law_often : He.DefD := ⟨("_law_often", none), "_law_often", "_law_often", defArgs s__law_often, defBody s__law_often, defScope s__law_often, [], []⟩
def d__law_bag : He.DefD := ⟨("_law_bag", none), "_law_bag", "_law_bag", defArgs s__law_bag, defBody s__law_bag, defScope s__law_bag, [], []⟩
def d__law_kind : He.DefD := ⟨("_law_kind", none), "_law_kind", "_law_kind", defArgs s__law_kind, defBody s__law_kind, defScope s__law_kind, [], []⟩
def d__law_fields : He.DefD := ⟨("_law_fields", none), "_law_fields", "_law_fields", defArgs s__law_fields, defBody s__law_fields, defScope s__law_fields, [], []⟩
def d__law_other_fields : He.DefD := ⟨("_law_other_fields", none), "_law_other_fields", "_law_other_fields", defArgs s__law_other_fields, defBody s__law_other_fields, defScope s__law_other_fields, [], []⟩
def d__law_pair : He.DefD := ⟨("_law_pair", none), "_law_pair", "_law_pair", defArgs s__law_pair, defBody s__law_pair, defScope s__law_pair, [], []⟩
def d__law_due : He.DefD := ⟨("_law_due", none), "_law_due", "_law_due", defArgs s__law_due, defBody s__law_due, defScope s__law_due, [], []⟩
def d__law_odd : He.DefD := ⟨("_law_odd", none), "_law_odd", "_law_odd", defArgs s__law_odd, defBody s__law_odd, defScope s__law_odd, [], []⟩
def d__law_one_right : He.DefD := ⟨("_law_one_right", none), "_law_one_right", "_law_one_right", defArgs s__law_one_right, defBody s__law_one_right, defScope s__law_one_right, [], []⟩
def d__law_right : He.DefD := ⟨("_law_right", none), "_law_right", "_law_right", defArgs s__law_right, defBody s__law_right, defScope s__law_right, [], []⟩
def d__law_created_right : He.DefD := ⟨("_law_created_right", none), "_law_created_right", "_law_created_right", defArgs s__law_created_right, defBody s__law_created_right, defScope s__law_created_right, [], []⟩
def d__law_read_errors : He.DefD := ⟨("_law_read_errors", none), "_law_read_errors", "_law_read_errors", defArgs s__law_read_errors, defBody s__law_read_errors, defScope s__law_read_errors, [], []⟩
def d__law_created_by_name : He.DefD := ⟨("_law_created_by_name", none), "_law_created_by_name", "_law_created_by_name", defArgs s__law_created_by_name, defBody s__law_created_by_name, defScope s__law_created_by_name, [], []⟩
def d_law : He.DefD := ⟨("law", none), "law", "law", defArgs s_law, defBody s_law, defScope s_law, [], []⟩
def d_InvalidCounts___init__ : He.DefD := ⟨("InvalidCounts", some "__init__"), "__init__", "InvalidCounts.__init__", defArgs s_InvalidCounts___init__, defBody s_InvalidCounts___init__, defScope s_InvalidCounts___init__, [], []⟩
def d_InvalidName___init__ : He.DefD := ⟨("InvalidName", some "__init__"), "__init__", "InvalidName.__init__", defArgs s_InvalidName___init__, defBody s_InvalidName___init__, defScope s_InvalidName___init__, [], []⟩
def d_TooManyNames___init__ : He.DefD := ⟨("TooManyNames", some "__init__"), "__init__", "TooManyNames.__init__", defArgs s_TooManyNames___init__, defBody s_TooManyNames___init__, defScope s_TooManyNames___init__, [], []⟩
def d_InvalidOrder___init__ : He.DefD := ⟨("InvalidOrder", some "__init__"), "__init__", "InvalidOrder.__init__", defArgs s_InvalidOrder___init__, defBody s_InvalidOrder___init__, defScope s_InvalidOrder___init__, [], []⟩
def d_InvalidSummary___init__ : He.DefD := ⟨("InvalidSummary", some "__init__"), "__init__", "InvalidSummary.__init__", defArgs s_InvalidSummary___init__, defBody s_InvalidSummary___init__, defScope s_InvalidSummary___init__, [], []⟩
def d_InvalidTimes___init__ : He.DefD := ⟨("InvalidTimes", some "__init__"), "__init__", "InvalidTimes.__init__", defArgs s_InvalidTimes___init__, defBody s_InvalidTimes___init__, defScope s_InvalidTimes___init__, [], []⟩
def d_InvalidCapacity___init__ : He.DefD := ⟨("InvalidCapacity", some "__init__"), "__init__", "InvalidCapacity.__init__", defArgs s_InvalidCapacity___init__, defBody s_InvalidCapacity___init__, defScope s_InvalidCapacity___init__, [], []⟩
def d_InvalidSlots___init__ : He.DefD := ⟨("InvalidSlots", some "__init__"), "__init__", "InvalidSlots.__init__", defArgs s_InvalidSlots___init__, defBody s_InvalidSlots___init__, defScope s_InvalidSlots___init__, [], []⟩
def d_InvalidNumber___init__ : He.DefD := ⟨("InvalidNumber", some "__init__"), "__init__", "InvalidNumber.__init__", defArgs s_InvalidNumber___init__, defBody s_InvalidNumber___init__, defScope s_InvalidNumber___init__, [], []⟩
def d_InvalidSize___init__ : He.DefD := ⟨("InvalidSize", some "__init__"), "__init__", "InvalidSize.__init__", defArgs s_InvalidSize___init__, defBody s_InvalidSize___init__, defScope s_InvalidSize___init__, [], []⟩
def d_InvalidText___init__ : He.DefD := ⟨("InvalidText", some "__init__"), "__init__", "InvalidText.__init__", defArgs s_InvalidText___init__, defBody s_InvalidText___init__, defScope s_InvalidText___init__, [], []⟩
def d_InvalidPlan___init__ : He.DefD := ⟨("InvalidPlan", some "__init__"), "__init__", "InvalidPlan.__init__", defArgs s_InvalidPlan___init__, defBody s_InvalidPlan___init__, defScope s_InvalidPlan___init__, [], []⟩
def d_CapacitiesDiffer___init__ : He.DefD := ⟨("CapacitiesDiffer", some "__init__"), "__init__", "CapacitiesDiffer.__init__", defArgs s_CapacitiesDiffer___init__, defBody s_CapacitiesDiffer___init__, defScope s_CapacitiesDiffer___init__, [], []⟩
def d_NotASummary___init__ : He.DefD := ⟨("NotASummary", some "__init__"), "__init__", "NotASummary.__init__", defArgs s_NotASummary___init__, defBody s_NotASummary___init__, defScope s_NotASummary___init__, [], []⟩
def d_InvalidLine___init__ : He.DefD := ⟨("InvalidLine", some "__init__"), "__init__", "InvalidLine.__init__", defArgs s_InvalidLine___init__, defBody s_InvalidLine___init__, defScope s_InvalidLine___init__, [], []⟩
def d_InvalidAction___init__ : He.DefD := ⟨("InvalidAction", some "__init__"), "__init__", "InvalidAction.__init__", defArgs s_InvalidAction___init__, defBody s_InvalidAction___init__, defScope s_InvalidAction___init__, [], []⟩
def d_InvalidIndex___init__ : He.DefD := ⟨("InvalidIndex", some "__init__"), "__init__", "InvalidIndex.__init__", defArgs s_InvalidIndex___init__, defBody s_InvalidIndex___init__, defScope s_InvalidIndex___init__, [], []⟩
def d_TooManyActions___init__ : He.DefD := ⟨("TooManyActions", some "__init__"), "__init__", "TooManyActions.__init__", defArgs s_TooManyActions___init__, defBody s_TooManyActions___init__, defScope s_TooManyActions___init__, [], []⟩
def d__law_caught : He.DefD := ⟨("_law_caught", none), "_law_caught", "_law_caught", defArgs s__law_caught, defBody s__law_caught, defScope s__law_caught, [], []⟩
def fn0 : List He.DefD := [d_is_whole, d_is_from, d_is_name, d_is_run, d_first_invalid, d_is_counts, d_check_counts, d_check_name, d_sum_of, d_table_of, d_counts_of_table, d_total, d_count_of, d_added, d__law_cell, d__law_pool, d__law_draw, d__law_words, d__law_often, d__law_bag, d__law_kind, d__law_fields, d__law_other_fields, d__law_pair, d__law_due, d__law_odd, d__law_one_right, d__law_right, d__law_created_right, d__law_read_errors, d__law_created_by_name, d_law, d_InvalidCounts___init__, d_InvalidName___init__, d_TooManyNames___init__, d_InvalidOrder___init__, d_InvalidSummary___init__, d_InvalidTimes___init__, d_InvalidCapacity___init__, d_InvalidSlots___init__, d_InvalidNumber___init__, d_InvalidSize___init__, d_InvalidText___init__, d_InvalidPlan___init__, d_CapacitiesDiffer___init__, d_NotASummary___init__, d_InvalidLine___init__, d_InvalidAction___init__, d_InvalidIndex___init__, d_TooManyActions___init__, d__law_caught]
def fn : List He.DefD := fn0
def fa : List He.Fa := [.glo "is_whole", .glo "is_from", .glo "is_name", .glo "is_run", .glo "first_invalid", .glo "is_counts", .glo "check_counts", .glo "check_name", .glo "sum_of", .glo "table_of", .glo "counts_of_table", .glo "total", .glo "count_of", .glo "added", .glo "_law_cell", .glo "_law_pool", .glo "_law_draw", .glo "_law_words", .glo "_law_often", .glo "_law_bag", .glo "_law_kind", .glo "_law_fields", .glo "_law_other_fields", .glo "_law_pair", .glo "_law_due", .glo "_law_odd", .glo "_law_one_right", .glo "_law_right", .glo "_law_created_right", .glo "_law_read_errors", .glo "_law_created_by_name", .glo "law", .meth "InvalidCounts" "__init__", .meth "InvalidName" "__init__", .meth "TooManyNames" "__init__", .meth "InvalidOrder" "__init__", .meth "InvalidSummary" "__init__", .meth "InvalidTimes" "__init__", .meth "InvalidCapacity" "__init__", .meth "InvalidSlots" "__init__", .meth "InvalidNumber" "__init__", .meth "InvalidSize" "__init__", .meth "InvalidText" "__init__", .meth "InvalidPlan" "__init__", .meth "CapacitiesDiffer" "__init__", .meth "NotASummary" "__init__", .meth "InvalidLine" "__init__", .meth "InvalidAction" "__init__", .meth "InvalidIndex" "__init__", .meth "TooManyActions" "__init__", .glo "_law_caught", .free "len", .free "isinstance", .free "range", .free "enumerate", .free "zip", .free "reversed", .free "int", .free "str", .free "bool", .free "tuple", .free "list", .free "dict", .free "bytes", .free "set", .free "sum", .free "all", .free "any", .free "abs", .free "min", .free "max", .free "sorted", .free "repr", .free "divmod", .free "type", .free "map", .free "iter", .free "next", .str "LETTERS" "abcdefghijklmnopqrstuvwxyz", .int "MAX_NAMES" 12]
abbrev R : PySem.W.OpenRow := PySem.W.OpenLaw.row PySem.Challenge.rw_tallyplans_k02_errors_of_counts
def tf : List He.Defn := [("_law_one_right", none), ("_law_right", none)]
def ex : List (PySem.W.Frag → Bool) := [fun K => exkB K "InvalidCounts" "index", fun K => exkB K "InvalidName" "name", fun K => exkB K "TooManyNames" "found", fun K => exkB K "InvalidOrder" "index", fun K => exkB K "InvalidSummary" "index", fun K => exkB K "InvalidTimes" "times", fun K => exkB K "InvalidCapacity" "capacity", fun K => exkB K "InvalidSlots" "slots", fun K => exkB K "InvalidNumber" "number", fun K => exkB K "InvalidSize" "size", fun K => exkB K "InvalidText" "text", fun K => exkB K "InvalidPlan" "index", fun K => exkB K "CapacitiesDiffer" "capacity", fun K => exkB K "NotASummary" "value", fun K => exkB K "InvalidLine" "line", fun K => exkB K "InvalidAction" "index", fun K => exkB K "InvalidIndex" "index", fun K => exkB K "TooManyActions" "found", fun K => ex0B K "NothingToUndo", fun K => ex0B K "Busy", exfB, fun K => decide ((He.cT K ("_law_one_right", none)).2 ≠ (He.cT K ("_law_right", none)).2)]
def exB : PySem.W.Frag → Bool := fun K => ex.all fun e => e K
end TP
namespace TP
open PySem PySem.Spec PyProof.Rows L2
/-! what the head looks at: the objects that the globals reach, a level at a time, each once (a Nat's bits tell which are seen) -/
def addY (z : Nat × List Addr × List Addr) (a : Addr) : Nat × List Addr × List Addr := match Nat.beq (Nat.land (Nat.shiftRight z.1 a) 1) 1 with
  | true => z
  | false => (Nat.lor z.1 (Nat.shiftLeft 1 a), a :: z.2.1, a :: z.2.2)
def levY (g : Addr → Option Obj) : Nat → Nat × List Addr × List Addr → List Addr
  | 0, z => z.2.1.reverse
  | n + 1, z => levY g n ((z.2.2.flatMap fun a => match g a with
    | some o => He.refsD o
    | none => []).foldl addY (z.1, z.2.1, []))
def asY (g : Addr → Option Obj) (n : Nat) : List Addr := levY g n (addY (0, [], []) mainGlobals)
def KY (n : Nat) (g : Addr → Option Obj) : PySem.W.Frag := He.frT g (asY g n)
def obsY (n : Nat) (fa : List He.Fa) (fn : List He.DefD) (ts : List He.Tab) (tf : List He.Defn) (ex : PySem.W.Frag → Bool) (g : Addr → Option Obj) : He.AlX := (He.obsT fa fn ts (KY n g), ex (KY n g) && He.tabsB g tf (KY n g))
theorem saysY {as : List Addr} {fa : List He.Fa} {fn : List He.DefD} {ts : List He.Tab} {tf : List He.Defn} {ex : PySem.W.Frag → Bool} {w : World} {h : Heap} (e : ((He.obsT fa fn ts (He.frT h.get? as), ex (He.frT h.get? as) && He.tabsB h.get? tf (He.frT h.get? as)) : He.AlX) = He.valX fn ts w) : He.SaysX fa fn ts tf ex w h (He.frT h.get? as) := by
  have e1 := congrArg (fun z : He.AlX => z.1) e
  have e2 : (ex (He.frT h.get? as) && He.tabsB h.get? tf (He.frT h.get? as)) = true := congrArg (fun z : He.AlX => z.2) e
  rw [Bool.and_eq_true] at e2
  have tb : ∀ p ∈ tf, PySem.W.codeHdIn (He.frT h.get? as) (He.cT (He.frT h.get? as) p).1 (He.cT (He.frT h.get? as) p).2 = true ∧ ∃ o, h.get? (He.cT (He.frT h.get? as) p).2 = some o ∧ He.emptyTab o = true := fun p hp => by
    have a := List.all_eq_true.mp e2.2 p hp
    rw [Bool.and_eq_true] at a
    refine ⟨a.1, ?_⟩
    have b := a.2
    split at b
    · rename_i o q; exact ⟨o, q, b⟩
    · cases b
  refine ⟨e1, e2.1, fun p hp => (tb p hp).1, fun p hp => ?_, fun p hp => ?_⟩
  · obtain ⟨o, q, z⟩ := (tb p hp).2
    exact He.frT_none q z
  · obtain ⟨o, q, z⟩ := (tb p hp).2
    rw [q, He.emptyTab_eq z]
def hookY (n : Nat) (fa : List He.Fa) (fn : List He.DefD) (ts : List He.Tab) (tf : List He.Defn) (ex : PySem.W.Frag → Bool) : PySem.W.Hook where
  α := He.AlX
  obs := fun s => obsY n fa fn ts tf ex s.heap.get?
  val := fun w => He.valX fn ts w
  says := fun w h => ∃ K : PySem.W.Frag, K.In h ∧ He.SaysX fa fn ts tf ex w h K
  of := fun _ _ e => ⟨_, He.frT_in, saysY e⟩
  keeps := fun _ _ _ ⟨K, hK, c⟩ k => ⟨K, PySem.W.Frag.In.keeps hK k, ⟨c.t, c.more, c.hd, c.out, fun p hp => k _ _ (c.empty p hp)⟩⟩
theorem obsY_eq {n : Nat} {fa : List He.Fa} {fn : List He.DefD} {ts : List He.Tab} {tf : List He.Defn} {ex : PySem.W.Frag → Bool} {g : Addr → Option Obj} {s : Shared} (h : ∀ a, g a = s.heap.get? a) : obsY n fa fn ts tf ex g = (hookY n fa fn ts tf ex).obs s := by
  have e : g = s.heap.get? := funext h
  rw [e] <;> rfl
/-! the looks in parts: each part runs the top for itself -/
noncomputable def EndY (r : PySem.W.OpenRow) (M : Nat) (w : World) (os : OsState) : Option PySem.W.SharedT := HandSHeadRun.endF (HandSHeadRun.stepQ (HandSHeadRun.denQ HandSHeadRun.tabQ) r.prog w) M r.prog w os
def RunF (r : PySem.W.OpenRow) (M n : Nat) (fn : List He.DefD) (w : World) : Prop :=
  ∀ os : OsState, (EndY r M w os).map (fun s => (fn.all fun d => d.ok (KY n (HandSHeadRun.getT s)), fn.map fun d => He.fnW (KY n (HandSHeadRun.getT s)) d.at_)) = some (true, fn.map He.DefD.val)
def RunA (r : PySem.W.OpenRow) (q : Program) (loose : List Str) (M n : Nat) (fa : List He.Fa) (ts : List He.Tab) (tf : List He.Defn) (ex : PySem.W.Frag → Bool) (w : World) : Prop :=
  ∀ os : OsState, (EndY r M w os).map (fun s => (HandSHeadRun.looksF r.prog (PySem.W.boot_heap w.params) s.abs, HandSHeadRun.seenQ q loose (importedModules r.prog.main.body) (fun s => PySem.W.xlAt q [] s && PySem.W.recOk r.toRowW.records s) s.abs,
    ((fa.all fun f => f.ok (KY n (HandSHeadRun.getT s))), ts.map fun t => He.dicW (KY n (HandSHeadRun.getT s)) (t.1 (KY n (HandSHeadRun.getT s)))), ex (KY n (HandSHeadRun.getT s)) && He.tabsB (HandSHeadRun.getT s) tf (KY n (HandSHeadRun.getT s)))) =
    some (true, PySem.W.openGood q loose, (true, ts.map fun t => some (He.keysIn w.params t.2)), true)
def RunL (r : PySem.W.OpenRow) (q : Program) (loose : List Str) (M : Nat) (w : World) : Prop :=
  ∀ os : OsState, (EndY r M w os).map (fun s => (HandSHeadRun.looksF r.prog (PySem.W.boot_heap w.params) s.abs, HandSHeadRun.seenQ q loose (importedModules r.prog.main.body) (fun s => PySem.W.xlAt q [] s && PySem.W.recOk r.toRowW.records s) s.abs)) = some (true, PySem.W.openGood q loose)
def RunX (r : PySem.W.OpenRow) (M n : Nat) (fa : List He.Fa) (ts : List He.Tab) (tf : List He.Defn) (ex : PySem.W.Frag → Bool) (w : World) : Prop :=
  ∀ os : OsState, (EndY r M w os).map (fun s => (((fa.all fun f => f.ok (KY n (HandSHeadRun.getT s))), ts.map fun t => He.dicW (KY n (HandSHeadRun.getT s)) (t.1 (KY n (HandSHeadRun.getT s)))), ex (KY n (HandSHeadRun.getT s)) && He.tabsB (HandSHeadRun.getT s) tf (KY n (HandSHeadRun.getT s)))) =
    some ((true, ts.map fun t => some (He.keysIn w.params t.2)), true)
theorem RunA.of {r : PySem.W.OpenRow} {q : Program} {loose : List Str} {M n : Nat} {fa : List He.Fa} {ts : List He.Tab} {tf : List He.Defn} {ex : PySem.W.Frag → Bool} {w : World} (h1 : RunL r q loose M w) (h2 : RunX r M n fa ts tf ex w) : RunA r q loose M n fa ts tf ex w := fun os => by
  obtain ⟨s, e, a⟩ := Option.map_eq_some_iff.mp (h1 os)
  obtain ⟨s', e', b⟩ := Option.map_eq_some_iff.mp (h2 os)
  rw [e] at e'
  cases e'
  obtain ⟨a1, a2⟩ := Prod.mk.inj a
  obtain ⟨b1, b2⟩ := Prod.mk.inj b
  rw [e, Option.map_some, a1, a2, b1, b2]
theorem RunF.app {r : PySem.W.OpenRow} {M n : Nat} {f1 f2 : List He.DefD} {w : World} (h1 : RunF r M n f1 w) (h2 : RunF r M n f2 w) : RunF r M n (f1 ++ f2) w := fun os => by
  obtain ⟨s, e, a⟩ := Option.map_eq_some_iff.mp (h1 os)
  obtain ⟨s', e', b⟩ := Option.map_eq_some_iff.mp (h2 os)
  rw [e] at e'
  cases e'
  obtain ⟨a1, a2⟩ := Prod.mk.inj a
  obtain ⟨b1, b2⟩ := Prod.mk.inj b
  rw [e, Option.map_some, List.all_append, a1, b1, List.map_append, a2, b2, List.map_append]
  rfl
theorem runY_of {r : PySem.W.OpenRow} {q : Program} {loose : List Str} {M n : Nat} {fa : List He.Fa} {fn : List He.DefD} {ts : List He.Tab} {tf : List He.Defn} {ex : PySem.W.Frag → Bool} {w : World} (hA : RunA r q loose M n fa ts tf ex w) (hF : RunF r M n fn w) :
    HandSHeadRun.RunEq r q (hookY n fa fn ts tf ex) (fun s => obsY n fa fn ts tf ex (HandSHeadRun.getT s)) M loose w := fun os => by
  obtain ⟨s, e, a⟩ := Option.map_eq_some_iff.mp (hA os)
  obtain ⟨s', e', b⟩ := Option.map_eq_some_iff.mp (hF os)
  rw [e] at e'
  cases e'
  obtain ⟨a1, a⟩ := Prod.mk.inj a
  obtain ⟨a2, a⟩ := Prod.mk.inj a
  obtain ⟨a3, a5⟩ := Prod.mk.inj a
  obtain ⟨a3, a4⟩ := Prod.mk.inj a3
  obtain ⟨b1, b2⟩ := Prod.mk.inj b
  show (EndY r M w os).map _ = _
  rw [e, Option.map_some]
  have e1 : He.obsT fa fn ts (KY n (HandSHeadRun.getT s)) = He.valT fn ts w := by
    unfold He.obsT He.valT He.obsD He.valD
    rw [a3, b1, b2, a4]
    rfl
  have e2 : obsY n fa fn ts tf ex (HandSHeadRun.getT s) = He.valX fn ts w := by
    unfold obsY He.valX
    rw [e1, a5]
  show some (_, _, obsY n fa fn ts tf ex (HandSHeadRun.getT s)) = some (true, PySem.W.openGood q loose, He.valX fn ts w)
  rw [a1, a2, e2]
end TP
namespace TP
open PySem PySem.Spec PyProof.Rows L2 LamX
abbrev hk : PySem.W.Hook := hookY 6 fa fn [] tf exB
def ob (s : PySem.W.SharedT) : He.AlX := obsY 6 fa fn [] tf exB (HandSHeadRun.getT s)
theorem ob_eq (s : PySem.W.SharedT) : ob s = hk.obs s.abs := obsY_eq (HandSHeadRun.getT_eq s)
def loose0 : List Str := ["TallyError", "InvalidCapacity", "InvalidName", "InvalidTimes", "InvalidCounts", "InvalidSummary", "InvalidOrder", "InvalidPlan", "InvalidText", "InvalidSize", "InvalidNumber", "InvalidSlots", "InvalidIndex", "InvalidAction", "InvalidLine", "NotASummary", "StateError", "CapacitiesDiffer", "Busy", "NothingToUndo", "SizeError", "TooManyNames", "TooManyActions", "MAX_NAMES", "LETTERS", "is_whole", "is_from", "is_name", "is_run", "first_invalid"]
def loose1 : List Str := ["is_counts", "check_counts", "check_name", "sum_of", "table_of", "counts_of_table", "total", "count_of", "added", "_law_cell", "_law_pool", "_law_draw", "_law_words", "_law_often", "_law_bag", "_law_kind", "_law_fields", "_law_other_fields", "_law_caught", "_law_pair", "_law_due", "_law_odd", "_law_one_right", "_law_right", "_law_created_right", "_law_read_errors", "_law_created_by_name"]
def loose : List Str := loose0 ++ loose1
theorem runL0 (w : World) : RunL R (PySem.W.view R.prog [61]) loose 16000 w := by
  intro os
  kernel_rfl
theorem runX0 (w : World) : RunX R 16000 6 fa [] tf exB w := by
  intro os
  kernel_rfl
theorem runA0 (w : World) : RunA R (PySem.W.view R.prog [61]) loose 16000 6 fa [] tf exB w := RunA.of (runL0 w) (runX0 w)
theorem runF0_0 (w : World) : RunF R 16000 6 fn0 w := by
  intro os
  kernel_rfl
theorem run_0 (w : World) : HandSHeadRun.RunEq R (PySem.W.view R.prog [61]) hk ob 16000 loose w := runY_of (runA0 w) (runF0_0 w)
theorem run (w : World) : HandSHeadRun.RunEq R (PySem.W.view R.prog [61]) hk ob 16000 loose w := run_0 w
end TP
open PySem PySem.W PySem.Calls PyProof.Rows in
set_option maxRecDepth 100000 in
set_option maxHeartbeats 0 in
theorem TP.frame (hc : PySem.W.WalkO (view (OpenLaw.row PySem.Challenge.rw_tallyplans_k02_errors_of_counts).prog [61]) TP.loose (XL (view (OpenLaw.row PySem.Challenge.rw_tallyplans_k02_errors_of_counts).prog [61]) []) TP.hk.says (OpenLaw.row PySem.Challenge.rw_tallyplans_k02_errors_of_counts).toRowW (HandSHeadRun.topDef (OpenLaw.row PySem.Challenge.rw_tallyplans_k02_errors_of_counts).prog 61) [] fun f vs => PySem.call f vs) : PySem.Challenge.rw_tallyplans_k02_errors_of_counts.Holds := by
  w_on; o_law
  refine HandSHeadRun.head_any (r := OpenLaw.row PySem.Challenge.rw_tallyplans_k02_errors_of_counts) (q := view (OpenLaw.row PySem.Challenge.rw_tallyplans_k02_errors_of_counts).prog [61]) (H := TP.hk) (ob := TP.ob) (M := 16000) (loose := TP.loose) (d := HandSHeadRun.topDef (OpenLaw.row PySem.Challenge.rw_tallyplans_k02_errors_of_counts).prog 61) (kwd := []) TP.ob_eq
    (by kernel_rfl) (fun s => by kernel_rfl) TP.run (by kernel_rfl) (by kernel_rfl) (by kernel_rfl) (by rfl) (by first | assumption | decide +kernel) (by decide +kernel) ⟨rfl, rfl, rfl, rfl, rfl, by decide +kernel⟩ ?hw hc
  case hw => w_witness2
namespace TP
open PySem PySem.Spec PyProof.Rows L2
structure FnG (P : Program) (w : World) (K : PySem.W.Frag) (mg : Str → Option Value) (base : Heap) (CX : CXT) (k : Nat) (f : Addr) (fd : FuncData) (ps : List Str) (sp : Sp) : Prop where
  len : ∀ vs H Q E, sp vs H Q E → vs.length = ps.length
  run : ∀ (A : Around) (outer : List Env) (s : Shared) (H : Hp) (args : Args) (us : List Value) (vs : List V) (Q : VK) (E : XK), Room k A → A.guards = some [] →
    Env0 P w K mg base A outer s H → BindsTo s fd args (ps.zip us) → Vals vs us → sp vs H Q E → codeAny (model P w) A (.call (.ref f) args) (CR CX outer P w H s Q E) s
section
variable {P : Program} {w : World} {K : PySem.W.Frag} {mg : Str → Option Value} {base : Heap} {CX : CXT} {j k : Nat} {f : Addr} {fd : FuncData} {ps : List Str} {sp sp' : Sp}
theorem FnG.mono (F : FnG P w K mg base CX j f fd ps sp) (h : j ≤ k) : FnG P w K mg base CX k f fd ps sp :=
  ⟨F.len, fun A outer s H args us vs Q E hr hg => F.run A outer s H args us vs Q E (hr.mono h) hg⟩
theorem FnG.imp (F : FnG P w K mg base CX k f fd ps sp) (h : ∀ vs H Q E, sp' vs H Q E → sp vs H Q E) : FnG P w K mg base CX k f fd ps sp' :=
  ⟨fun vs H Q E q => F.len vs H Q E (h _ _ _ _ q), fun A outer s H args us vs Q E hr hg e b r q => F.run A outer s H args us vs Q E hr hg e b r (h _ _ _ _ q)⟩
end
theorem fnG_of {CX : CXT} {P : Program} {w : World} {K : PySem.W.Frag} {mg : Str → Option Value} {base : Heap} {k : Nat} {f : Addr} {x qual : Str} {params : Arguments} {body : List Stmt} {scope : Scope} {dvs : List V} {kws : List (Str × V)} {fd : FuncData} {N ps : List Str} {sp : Sp}
    (F : FunD K x qual params body scope dvs kws f fd) (S : FnScope N ps scope) (len : ∀ vs H Q E, sp vs H Q E → vs.length = ps.length)
    (hbody : ∀ (cdv : Value) (A : Around) (outer : List Env) (s : Shared) (H : Hp) (vs : List V) (Q : VK) (E : XK), Room k (A.deeper (envOfC qual scope s.heap.objs.size f cdv)) → (A.deeper (envOfC qual scope s.heap.objs.size f cdv)).guards = some [] → sp vs H Q E →
      ∃ t, PSs (cxOf CX P w K mg base N qual scope f cdv A outer s H E) body t ∧ t { nx := fun _ H' => Q .non H', rt := Q } (start N vs) H) :
    FnG P w K mg base CX (k + 1) f fd ps sp := by
  obtain ⟨oc, od, dV, kV, doc, pm, an, cdv, ct, osl, rfl, lk, hcd, _, _⟩ := F.ex
  refine ⟨len, fun A outer s H args us vs Q E hr hg e0 hb r hsp => ?_⟩
  have hl := len _ _ _ _ hsp
  have kx : K.In s.heap := e0.mod.kin.keeps fun b o e => (e0.bs b o e).1
  have nl : s.heap.NoLimit := e0.mod.nolimit.keeps fun b o e => (e0.bs b o e).1
  refine codeAny_call_function hr.depth (kx _ _ lk) rfl S.co S.gen rfl (PySem.W.codeRec_of kx hcd) (hb _ _ _ _ ?_)
  refine wpAny_newFunctionEnv_cells S.kind (fun ⟨n, v⟩ hy => by
    rcases S.par n (List.of_mem_zip hy).1 with q | q
    · exact .inl q
    · exact .inr ⟨q, PySem.W.cellsFrom_some _ _ _ (.inl q)⟩) fun env he s1 ic => ?_
  subst he
  refine ⟨nl.keeps ic.toInCall.keep, codeAny_func ?_⟩
  obtain ⟨t, ht, hq⟩ := hbody cdv A outer s H vs Q E (hr.deeper _) hg hsp
  have I0 := inv_start (CX := CX) (E := E) S hr.hd e0 hl r ic
  refine wpAny_mono (ht.run [] s1 (start N vs) H _ I0 hq) (fun fl s' hs => ?_) fun e s' hs => hs
  cases fl with
  | ret u =>
    obtain ⟨v, σ', H', J, rv, q⟩ := hs
    exact ⟨v, H', J.os, J.bare, J.base, J.hok, rv, q⟩
  | next =>
    obtain ⟨σ', H', J, q⟩ := hs
    exact ⟨.non, H', J.os, J.bare, J.base, J.hok, rfl, q⟩
  | brk =>
    obtain ⟨_, _, _, q⟩ := hs
    exact q.elim
  | cont =>
    obtain ⟨_, _, _, q⟩ := hs
    exact q.elim
structure Has (P : Program) (w : World) (K : PySem.W.Frag) (mg : Str → Option Value) (base : Heap) (CX : CXT) (k : Nat) (x : Str) (st : Stmt) (ps : List Str) (sp : Sp) : Prop where
  ex : ∃ fd, FunD K x x (defArgs st) (defBody st) (defScope st) [] [] (He.ga K x) fd ∧ FnG P w K mg base CX k (He.ga K x) fd ps sp
  glo : mg x = some (.ref (He.ga K x))
structure Dfd (K : PySem.W.Frag) (mg : Str → Option Value) (x : Str) (st : Stmt) : Prop where
  ex : ∃ fd, FunD K x x (defArgs st) (defBody st) (defScope st) [] [] (He.ga K x) fd
  glo : mg x = some (.ref (He.ga K x))
section
variable {P : Program} {w : World} {K : PySem.W.Frag} {mg : Str → Option Value} {base : Heap} {CX : CXT} {k j : Nat} {x : Str} {st : Stmt} {N ps : List Str} {sp sp' : Sp}
theorem Dfd.has (D : Dfd K mg x st) (S : FnScope N ps (defScope st)) (len : ∀ vs H Q E, sp vs H Q E → vs.length = ps.length)
    (hbody : ∀ (cdv : Value) (A : Around) (outer : List Env) (s : Shared) (H : Hp) (vs : List V) (Q : VK) (E : XK), Room k (A.deeper (envOfC x (defScope st) s.heap.objs.size (He.ga K x) cdv)) → (A.deeper (envOfC x (defScope st) s.heap.objs.size (He.ga K x) cdv)).guards = some [] → sp vs H Q E →
      ∃ t, PSs (cxOf CX P w K mg base N x (defScope st) (He.ga K x) cdv A outer s H E) (defBody st) t ∧ t { nx := fun _ H' => Q .non H', rt := Q } (start N vs) H) :
    Has P w K mg base CX (k + 1) x st ps sp := by
  obtain ⟨fd, F⟩ := D.ex
  exact ⟨⟨fd, F, fnG_of F S len hbody⟩, D.glo⟩
theorem Has.imp (h : Has P w K mg base CX k x st ps sp) (i : ∀ vs H Q E, sp' vs H Q E → sp vs H Q E) : Has P w K mg base CX k x st ps sp' := by
  obtain ⟨fd, F, G⟩ := h.ex
  exact ⟨⟨fd, F, G.imp i⟩, h.glo⟩
end
section
variable {X : Cx} {CX : CXT} {k : Nat} {f : Addr} {fd : FuncData} {ps ks : List Str} {sp : Sp} {E : XK} {x : Str} {st : Stmt} {p pos : Pos} {e : Expr} {es : List Expr} {kws : List Keyword} {t tk : TA}
theorem runG {pins : List (Addr × Obj)} {σ : L2.St} {H : Hp} {s : Shared} {Q : VK} {us : List Value} {args : Args} {vs : List V} (F : FnG X.prog X.w X.K X.mg X.base CX k f fd ps sp) (hr : Room k X.A) (hg : X.A.guards = some []) (hx : Passes CX X E)
    (I : Inv X pins σ H s) (r : Vals vs us) (hb : BindsTo s fd args (ps.zip us)) (h : sp vs H Q E) : wpAny (model X.prog X.w) X.A (call (.ref f) args.pos args.kw) (EP X pins σ Q) X.xe s := by
  refine wpAny_call (codeAny_mono (F.run X.A X.stack s H args us vs Q E hr hg I.env0 hb r h) fun z s' hq => ?_)
  cases z with
  | error e => exact hx pins σ H s e s' I hq
  | ok fl =>
    cases fl with
    | ret u => exact I.after hq
    | next => exact hq.elim
    | brk => exact hq.elim
    | cont => exact hq.elim
theorem FunD.noDef {K : PySem.W.Frag} {q : Str} {params : Arguments} {body : List Stmt} {scope : Scope} {kvs : List (Str × V)} (F : FunD K x q params body scope [] kvs f fd) :
    ∃ (kV doc pm : Value) (an : Option Addr) (cdv ct : Value), fd = PySem.W.fnOf x q params body scope .none kV doc pm an cdv ct := by
  obtain ⟨oc, od, dV, kV, doc, pm, an, cdv, ct, osl, rfl, lk, hcd, hd, _⟩ := F.ex
  rcases hd with ⟨_, rfl⟩ | ⟨q, _⟩
  · exact ⟨kV, doc, pm, an, cdv, ct, rfl⟩
  · exact absurd rfl q
theorem pe_fn (F : Has X.prog X.w X.K X.mg X.base CX k x st ps sp) (hb : PosB x st ps) (hr : Room k X.A) (hg : X.A.guards = some []) (hgl : Gl X x) (hx : Passes CX X E)
    (ha : PA X (e :: es) t) (hdb : (x == ("__debug__" : Str)) = false := by decide) (he : starEach (e :: es) X.env = (false, eval e X.env) :: starEach es X.env := by rfl)
    (hpl : (backTo pos (starEach es X.env)).any (·.1) = false := by rfl) : PE X (.Call (.Name x p) (e :: es) [] pos) (tCall sp [] E t) := by
  obtain ⟨fd, FD, G⟩ := F.ex
  refine ⟨fun pins s σ H Q I h => ?_⟩
  refine wpAny_Call_Name_kw (ld_glob I hgl F.glo ?_ hdb)
  refine PySem.W.callWith_K (h₀ := X.base) I.ok.mod.kin FD.kp (thn (ha.run pos pins s σ H _ I h) fun us s1 ⟨vs, H1, I1, r, q⟩ => ⟨I1.kIn, ?_⟩) he hpl
  have q2 : sp vs H1 Q E := by rw [← List.append_nil vs]; exact q
  obtain ⟨kV, doc, pm, an, cdv, ct, rfl⟩ := FunD.noDef FD
  exact runG (args := ⟨us, []⟩) G hr hg hx I1 r (.of_eq (hb kV doc pm an cdv ct us (by rw [← r.length]; exact G.len _ _ _ _ q2))) q2
theorem pe_fn0 (F : Has X.prog X.w X.K X.mg X.base CX k x st ps sp) (hb : PosB x st ps) (hr : Room k X.A) (hg : X.A.guards = some []) (hgl : Gl X x) (hx : Passes CX X E)
    (hdb : (x == ("__debug__" : Str)) = false := by decide) : PE X (.Call (.Name x p) [] [] pos) (tCall sp [] E tNil) := by
  obtain ⟨fd, FD, G⟩ := F.ex
  refine ⟨fun pins s σ H Q I h => ?_⟩
  refine wpAny_Call_Name_kw (ld_glob I hgl F.glo ?_ hdb)
  have q2 : sp [] H Q E := h
  obtain ⟨kV, doc, pm, an, cdv, ct, rfl⟩ := FunD.noDef FD
  exact PySem.W.callWith_K0 I.kIn FD.kp (runG (args := ⟨[], []⟩) G hr hg hx I .nil (.of_eq (hb kV doc pm an cdv ct [] (G.len _ _ _ _ q2))) q2)
end
end TP
namespace TP
open PySem PySem.Spec PyProof.Rows L2
section
variable {H H' H1 : Hp} {p q : Addr} {o u : HO}
theorem hp_new (h : H p = some o) (hq : H q = none) : upd H q u p = some o := (upd_ne (ne_of_none h hq)).trans h
theorem hp_same (s : Same H H') (h : H p = some o) : H' p = some o := s p o h
theorem same_new (hq : H q = none) : Same H (upd H q u) := fun b o h => hp_new h hq
theorem same_step (s : Same H H') (hq : H' q = none) : Same H (upd H' q u) := s.trans (same_new hq)
theorem same_mut (s : Same H H') (hq : H q = none) : Same H (upd H' q u) := fun b o h => (upd_ne (ne_of_none h hq)).trans (s b o h)
theorem free_upd (h : upd H q u p = none) : H p = none := by
  by_cases e : p = q
  · subst e; rw [upd_same] at h; cases h
  · rw [upd_ne e] at h; exact h
theorem ne_fresh (h : H p = some o) (hq : H q = none) : p ≠ q := ne_of_none h hq
theorem szl {n : Nat} (h : n.ble 100000 = true) : n ≤ sizeLine := Nat.le_trans (Nat.le_of_ble_eq_true h) (by rw [sizeLine_eq]; decide)
theorem sz_le {n : Nat} (h : n ≤ 100000) : n ≤ sizeLine := Nat.le_trans h (by rw [sizeLine_eq]; decide)
theorem sz_lt {n : Nat} (h : n < 100000) : n < sizeLine := Nat.lt_of_lt_of_le h (by rw [sizeLine_eq]; decide)
end
def SameB (l : Addr) (H H' : Hp) : Prop := ∀ b o, b ≠ l → H b = some o → H' b = some o
theorem SameB.trans {l : Addr} {H H1 H2 : Hp} (a : SameB l H H1) (b : SameB l H1 H2) : SameB l H H2 := fun c o n h => b c o n (a c o n h)
theorem SameB.upd {l : Addr} {H : Hp} {u : HO} : SameB l H (upd H l u) := fun b o n h => (upd_ne n).trans h
theorem SameT.refl (H : Hp) : SameT H H := fun _ _ h _ _ => h
theorem SameT.dct {H : Hp} {l : Addr} {xs : List (Key × V)} {u : HO} (h : H l = some (.dK xs)) : SameT H (upd H l u) := fun a o e _ n => by
  by_cases z : a = l
  · subst z; rw [h] at e; cases e; exact absurd rfl (n xs)
  · exact (upd_ne z).trans e
theorem SameT.new {H : Hp} {l : Addr} {u : HO} (h : H l = none) : SameT H (upd H l u) := same_t (same_new h)
section
variable {K : PySem.W.Frag} {H : Hp}
theorem dps_len : ∀ {vs : List V} {ds : List PyData}, DpAll K H vs ds → vs.length = ds.length
  | _, _, .nil => rfl
  | _, _, .cons _ r => by rw [List.length_cons, List.length_cons, dps_len r]
theorem dps_get : ∀ {vs : List V} {ds : List PyData} {i : Nat} {v : V}, DpAll K H vs ds → vs[i]? = some v → ∃ d, ds[i]? = some d ∧ Dp K H v d
  | _, _, i, _, .nil, e => by simp at e
  | _, _, 0, _, .cons h _, e => by simp at e; subst e; exact ⟨_, rfl, h⟩
  | _, _, i + 1, v, .cons _ r, e => by
    obtain ⟨d, h1, h2⟩ := dps_get (i := i) r (by simpa using e)
    exact ⟨d, by simpa using h1, h2⟩
theorem dps_snoc : ∀ {vs : List V} {ds : List PyData} {v : V} {d : PyData}, DpAll K H vs ds → Dp K H v d → DpAll K H (vs ++ [v]) (ds ++ [d])
  | _, _, _, _, .nil, h => .cons h .nil
  | _, _, _, _, .cons a r, h => .cons a (dps_snoc r h)
theorem dps_app : ∀ {vs ws : List V} {ds es : List PyData}, DpAll K H vs ds → DpAll K H ws es → DpAll K H (vs ++ ws) (ds ++ es)
  | _, _, _, _, .nil, h => h
  | _, _, _, _, .cons a r, h => .cons a (dps_app r h)
theorem dp_int_inv {v : V} {i : Int} (h : Dp K H v (.int i)) : v = .int i := by cases h; rfl
theorem dp_str_inv {v : V} {x : Str} (h : Dp K H v (.str x)) : v = .str x := by cases h; rfl
theorem dp_tup_inv {v : V} {ds : List PyData} (h : Dp K H v (.tuple ds)) : ∃ a xs, v = .ref a ∧ SqT K H a xs ∧ DpAll K H xs ds := by cases h with | tup h r => exact ⟨_, _, rfl, h, r⟩
end
section
variable {σ : L2.St} {H : Hp} {Q : VK} {QB : Bool → Hp → Prop} {QA : List V → Hp → Prop} {QO : Option Int → Hp → Prop} {ta tb tc te : TE} {tt tu : TT} {tr : TA} {D : Ends} {s t u : TS} {g : TG} {gs : TGs} {r r' : R2} {v x y : V} {E : XK} {sp : Sp}
theorem w_var {i : Nat} (e : σ[i]? = some (some v)) (h : Q v H) : tVar i σ H Q := ⟨v, e, h⟩
theorem w_c (h : Q v H) : tC v σ H Q := h
instance i_w_c : StepX (tC v σ H Q) (Q v H) := ⟨fun h => w_c h⟩
theorem w_op (h : ta σ H fun x H1 => tb σ H1 fun y H2 => r x y H2 Q) : tOp r ta tb σ H Q := h
instance i_w_op : StepX (tOp r ta tb σ H Q) (ta σ H fun x H1 => tb σ H1 fun y H2 => r x y H2 Q) := ⟨fun h => w_op h⟩
theorem w_un {r : V → Hp → VK → Prop} (h : ta σ H fun x H1 => r x H1 Q) : tUn r ta σ H Q := h
instance i_w_un {r : V → Hp → VK → Prop} : StepX (tUn r ta σ H Q) (ta σ H fun x H1 => r x H1 Q) := ⟨fun h => w_un h⟩
theorem w_U {g : Int → V} {i : Int} (h : Q (g i) H) : rU g (.int i) H Q := ⟨i, rfl, h⟩
instance i_w_U {g : Int → V} {i : Int} : StepX (rU g (.int i) H Q) (Q (g i) H) := ⟨fun h => w_U h⟩
theorem w_I0 {g : Int → Int → V} {i j : Int} (h : Q (g i j) H) : rI0 g (.int i) (.int j) H Q := ⟨i, j, rfl, rfl, h⟩
instance i_w_I0 {g : Int → Int → V} {i j : Int} : StepX (rI0 g (.int i) (.int j) H Q) (Q (g i j) H) := ⟨fun h => w_I0 h⟩
theorem w_I {C : Int → Int → Prop} {g : Int → Int → V} {i j : Int} (c : C i j) (h : Q (g i j) H) : rI C g (.int i) (.int j) H Q := ⟨i, j, rfl, rfl, c, h⟩
theorem w_eqI {i j : Int} (h : Q (.bl (decide (i = j))) H) : rEq (.int i) (.int j) H Q := by
  refine ⟨rfl, ?_⟩
  have e : decide (V.int i = V.int j) = decide (i = j) := by
    by_cases z : i = j
    · subst z; simp
    · rw [decide_eq_false z, decide_eq_false fun q => z (V.int.inj q)]
  rw [e]; exact h
instance i_w_eqI {i j : Int} : StepX (rEq (.int i) (.int j) H Q) (Q (.bl (decide (i = j))) H) := ⟨fun h => w_eqI h⟩
theorem w_neI {i j : Int} (h : Q (.bl (!decide (i = j))) H) : rNe (.int i) (.int j) H Q := by
  refine ⟨rfl, ?_⟩
  have e : decide (V.int i = V.int j) = decide (i = j) := by
    by_cases z : i = j
    · subst z; simp
    · rw [decide_eq_false z, decide_eq_false fun q => z (V.int.inj q)]
  rw [e]; exact h
instance i_w_neI {i j : Int} : StepX (rNe (.int i) (.int j) H Q) (Q (.bl (!decide (i = j))) H) := ⟨fun h => w_neI h⟩
theorem w_eqS {i j : Str} (h : Q (.bl (decide (i = j))) H) : rEq (.str i) (.str j) H Q := by
  refine ⟨rfl, ?_⟩
  have e : decide (V.str i = V.str j) = decide (i = j) := by
    by_cases z : i = j
    · subst z; simp
    · rw [decide_eq_false z, decide_eq_false fun q => z (V.str.inj q)]
  rw [e]; exact h
instance i_w_eqS {i j : Str} : StepX (rEq (.str i) (.str j) H Q) (Q (.bl (decide (i = j))) H) := ⟨fun h => w_eqS h⟩
theorem w_neS {i j : Str} (h : Q (.bl (!decide (i = j))) H) : rNe (.str i) (.str j) H Q := by
  refine ⟨rfl, ?_⟩
  have e : decide (V.str i = V.str j) = decide (i = j) := by
    by_cases z : i = j
    · subst z; simp
    · rw [decide_eq_false z, decide_eq_false fun q => z (V.str.inj q)]
  rw [e]; exact h
instance i_w_neS {i j : Str} : StepX (rNe (.str i) (.str j) H Q) (Q (.bl (!decide (i = j))) H) := ⟨fun h => w_neS h⟩
theorem w_isB {a b : Bool} (h : Q (.bl (decide (a = b))) H) : rIsB (.bl a) (.bl b) H Q := ⟨a, b, rfl, rfl, h⟩
instance i_w_isB {a b : Bool} : StepX (rIsB (.bl a) (.bl b) H Q) (Q (.bl (decide (a = b))) H) := ⟨fun h => w_isB h⟩
theorem w_notB {a b : Bool} (h : Q (.bl (!decide (a = b))) H) : rNotB (.bl a) (.bl b) H Q := ⟨a, b, rfl, rfl, h⟩
instance i_w_notB {a b : Bool} : StepX (rNotB (.bl a) (.bl b) H Q) (Q (.bl (!decide (a = b))) H) := ⟨fun h => w_notB h⟩
theorem w_call (h : tr σ H fun vs H1 => sp vs H1 Q E) : tCall sp [] E tr σ H Q := by
  have e : (fun (vs : List V) (H1 : Hp) => sp (vs ++ []) H1 Q E) = fun vs H1 => sp vs H1 Q E := by funext vs H1; rw [List.append_nil]
  show tr σ H fun vs H1 => sp (vs ++ []) H1 Q E
  rw [e]; exact h
instance i_w_call : StepX (tCall sp [] E tr σ H Q) (tr σ H fun vs H1 => sp vs H1 Q E) := ⟨fun h => w_call h⟩
theorem w_CB {r : List V → Hp → VK → Prop} (h : tr σ H fun vs H1 => r vs H1 Q) : tCB r tr σ H Q := h
instance i_w_CB {r : List V → Hp → VK → Prop} : StepX (tCB r tr σ H Q) (tr σ H fun vs H1 => r vs H1 Q) := ⟨fun h => w_CB h⟩
theorem w_nil (h : QA [] H) : tNil σ H QA := h
instance i_w_nil : StepX (tNil σ H QA) (QA [] H) := ⟨fun h => w_nil h⟩
theorem w_cons (h : ta σ H fun x H1 => tr σ H1 fun xs H2 => QA (x :: xs) H2) : tCons ta tr σ H QA := h
instance i_w_cons : StepX (tCons ta tr σ H QA) (ta σ H fun x H1 => tr σ H1 fun xs H2 => QA (x :: xs) H2) := ⟨fun h => w_cons h⟩
def AllocT (xs : List V) (H : Hp) (Q : VK) : Prop := xs.length ≤ sizeLine ∧ ∀ p, H p = none → Q (.ref p) (upd H p (.tup xs))
def AllocL (xs : List V) (H : Hp) (Q : VK) : Prop := xs.length ≤ sizeLine ∧ ∀ p, H p = none → Q (.ref p) (upd H p (.lst xs))
theorem w_tup (h : tr σ H fun xs H1 => AllocT xs H1 Q) : tTup tr σ H Q := h
instance i_w_tup : StepX (tTup tr σ H Q) (tr σ H fun xs H1 => AllocT xs H1 Q) := ⟨fun h => w_tup h⟩
theorem w_lst (h : tr σ H fun xs H1 => AllocL xs H1 Q) : tLst tr σ H Q := h
instance i_w_lst : StepX (tLst tr σ H Q) (tr σ H fun xs H1 => AllocL xs H1 Q) := ⟨fun h => w_lst h⟩
theorem w_allocT {xs : List V} (l : xs.length.ble 100000 = true) (h : ∀ p, H p = none → Q (.ref p) (upd H p (.tup xs))) : AllocT xs H Q := ⟨szl l, h⟩
theorem w_allocL {xs : List V} (l : xs.length.ble 100000 = true) (h : ∀ p, H p = none → Q (.ref p) (upd H p (.lst xs))) : AllocL xs H Q := ⟨szl l, h⟩
def BlC (H : Hp) (v : V) (k : Bool → Prop) : Prop := ∃ c, v = .bl c ∧ k c
theorem w_bl {c : Bool} {k : Bool → Prop} (h : k c) : BlC H (.bl c) k := ⟨c, rfl, h⟩
instance i_w_bl {c : Bool} {k : Bool → Prop} : StepX (BlC H (.bl c) k) (k c) := ⟨fun h => w_bl h⟩
theorem w_andV (h : ta σ H fun x H1 => BlC H1 x fun c => if c = true then tb σ H1 Q else Q (.bl false) H1) : tAndV ta tb σ H Q := h
instance i_w_andV : StepX (tAndV ta tb σ H Q) (ta σ H fun x H1 => BlC H1 x fun c => if c = true then tb σ H1 Q else Q (.bl false) H1) := ⟨fun h => w_andV h⟩
theorem w_orV (h : ta σ H fun x H1 => BlC H1 x fun c => if c = true then Q (.bl true) H1 else tb σ H1 Q) : tOrV ta tb σ H Q := h
instance i_w_orV : StepX (tOrV ta tb σ H Q) (ta σ H fun x H1 => BlC H1 x fun c => if c = true then Q (.bl true) H1 else tb σ H1 Q) := ⟨fun h => w_orV h⟩
theorem w_notV (h : ta σ H fun x H1 => BlC H1 x fun c => Q (.bl (!c)) H1) : tNotV ta σ H Q := h
instance i_w_notV : StepX (tNotV ta σ H Q) (ta σ H fun x H1 => BlC H1 x fun c => Q (.bl (!c)) H1) := ⟨fun h => w_notV h⟩
theorem w_if (h : tt σ H fun c H1 => if c = true then ta σ H1 Q else tb σ H1 Q) : tIf tt ta tb σ H Q := h
instance i_w_if : StepX (tIf tt ta tb σ H Q) (tt σ H fun c H1 => if c = true then ta σ H1 Q else tb σ H1 Q) := ⟨fun h => w_if h⟩
theorem w_test (h : te σ H fun x H1 => BlC H1 x fun c => QB c H1) : tTest te σ H QB := h
instance i_w_test : StepX (tTest te σ H QB) (te σ H fun x H1 => BlC H1 x fun c => QB c H1) := ⟨fun h => w_test h⟩
theorem w_B (h : te σ H fun x H1 => BlC H1 x fun c => QB c H1) : tB te σ H QB := h
instance i_w_B : StepX (tB te σ H QB) (te σ H fun x H1 => BlC H1 x fun c => QB c H1) := ⟨fun h => w_B h⟩
theorem w_and (h : tt σ H fun c H1 => if c = true then tu σ H1 QB else QB false H1) : tAnd tt tu σ H QB := h
instance i_w_and : StepX (tAnd tt tu σ H QB) (tt σ H fun c H1 => if c = true then tu σ H1 QB else QB false H1) := ⟨fun h => w_and h⟩
theorem w_or (h : tt σ H fun c H1 => if c = true then QB true H1 else tu σ H1 QB) : tOr tt tu σ H QB := h
instance i_w_or : StepX (tOr tt tu σ H QB) (tt σ H fun c H1 => if c = true then QB true H1 else tu σ H1 QB) := ⟨fun h => w_or h⟩
theorem w_not (h : tt σ H fun c H1 => QB (!c) H1) : tNot tt σ H QB := h
instance i_w_not : StepX (tNot tt σ H QB) (tt σ H fun c H1 => QB (!c) H1) := ⟨fun h => w_not h⟩
theorem w_chain (h : ta σ H fun x H1 => tb σ H1 fun y H2 => r x y H2 fun z H3 => BlC H3 z fun k => if k = true then tc σ H3 fun w' H4 => r' y w' H4 Q else Q (.bl false) H3) : tChain r r' ta tb tc σ H Q := h
instance i_w_chain : StepX (tChain r r' ta tb tc σ H Q) (ta σ H fun x H1 => tb σ H1 fun y H2 => r x y H2 fun z H3 => BlC H3 z fun k => if k = true then tc σ H3 fun w' H4 => r' y w' H4 Q else Q (.bl false) H3) := ⟨fun h => w_chain h⟩
theorem w_seq (h : t { D with nx := u D } σ H) : tSeq t u D σ H := h
theorem w_next (h : D.nx σ H) : tNext D σ H := h
instance i_w_next : StepX (tNext D σ H) (D.nx σ H) := ⟨fun h => w_next h⟩
theorem w_asg (h : te σ H fun x H1 => g x σ H1 D.nx) : tAsg te g D σ H := h
instance i_w_asg : StepX (tAsg te g D σ H) (te σ H fun x H1 => g x σ H1 D.nx) := ⟨fun h => w_asg h⟩
theorem w_gname {i : Nat} {QS : L2.St → Hp → Prop} (h : QS (σ.set i (some v)) H) : gName i v σ H QS := h
theorem w_gtup {K : PySem.W.Frag} {n : Nat} {a : Addr} {xs : List V} {QS : L2.St → Hp → Prop} (hs : SqT K H a xs) (hn : xs.length = n) (h : gs xs σ H QS) : gTup K n gs (.ref a) σ H QS := ⟨a, xs, rfl, hs, hn, h⟩
theorem w_gcons {xs : List V} {QS : L2.St → Hp → Prop} (h : g x σ H fun σ' H' => gs xs σ' H' QS) : gCons g gs (x :: xs) σ H QS := ⟨x, xs, rfl, h⟩
instance i_w_gcons {xs : List V} {QS : L2.St → Hp → Prop} : StepX (gCons g gs (x :: xs) σ H QS) (g x σ H fun σ' H' => gs xs σ' H' QS) := ⟨fun h => w_gcons h⟩
theorem w_gnil {QS : L2.St → Hp → Prop} (h : QS σ H) : gNil [] σ H QS := ⟨rfl, h⟩
instance i_w_gnil {QS : L2.St → Hp → Prop} : StepX (gNil [] σ H QS) (QS σ H) := ⟨fun h => w_gnil h⟩
theorem w_gsub {to ti : TE} {ts : TSet} {QS : L2.St → Hp → Prop} (h : to σ H fun o H1 => ti σ H1 fun i H2 => ts o i v H2 fun H3 => QS σ H3) : gSub to ti ts v σ H QS := h
instance i_w_gsub {to ti : TE} {ts : TSet} {QS : L2.St → Hp → Prop} : StepX (gSub to ti ts v σ H QS) (to σ H fun o H1 => ti σ H1 fun i H2 => ts o i v H2 fun H3 => QS σ H3) := ⟨fun h => w_gsub h⟩
theorem w_setL {p : Addr} {xs : List V} {i : Int} {j : Nat} {QH : Hp → Prop} (hp : H p = some (.lst xs)) (hj : ixN xs.length i = some j) (h : QH (upd H p (.lst (xs.set j v)))) : rSetL (.ref p) (.int i) v H QH := ⟨p, xs, i, j, rfl, rfl, hp, hj, h⟩
theorem w_ret (h : te σ H D.rt) : tRet te D σ H := h
instance i_w_ret : StepX (tRet te D σ H) (te σ H D.rt) := ⟨fun h => w_ret h⟩
theorem w_retN (h : D.rt .non H) : tRetN D σ H := h
instance i_w_retN : StepX (tRetN D σ H) (D.rt .non H) := ⟨fun h => w_retN h⟩
theorem w_ifS {c : TT} (h : c σ H fun b H1 => if b = true then t D σ H1 else u D σ H1) : tIfS c t u D σ H := h
instance i_w_ifS {c : TT} : StepX (tIfS c t u D σ H) (c σ H fun b H1 => if b = true then t D σ H1 else u D σ H1) := ⟨fun h => w_ifS h⟩
theorem w_drop (h : te σ H fun _ H1 => D.nx σ H1) : tDrop te D σ H := h
instance i_w_drop : StepX (tDrop te D σ H) (te σ H fun _ H1 => D.nx σ H1) := ⟨fun h => w_drop h⟩
theorem w_aug {i : Nat} {ti : TIp} (e : σ[i]? = some (some v)) (h : te σ H fun y H1 => ti v y H1 fun z H2 => D.nx (σ.set i (some z)) H2) : tAug i te ti D σ H := ⟨v, e, h⟩
theorem w_ipI {f : Int → Int → Int} {i j : Int} (h : Q (.int (f i j)) H) : ipI f (.int i) (.int j) H Q := ⟨i, j, rfl, rfl, h⟩
instance i_w_ipI {f : Int → Int → Int} {i j : Int} : StepX (ipI f (.int i) (.int j) H Q) (Q (.int (f i j)) H) := ⟨fun h => w_ipI h⟩
theorem w_break (h : D.bk σ H) : tBreak D σ H := h
instance i_w_break : StepX (tBreak D σ H) (D.bk σ H) := ⟨fun h => w_break h⟩
theorem w_cont (h : D.ct σ H) : tCont D σ H := h
instance i_w_cont : StepX (tCont D σ H) (D.ct σ H) := ⟨fun h => w_cont h⟩
theorem w_nx {n : L2.St → Hp → Prop} {r : VK} {b c : L2.St → Hp → Prop} (h : n σ H) : Ends.nx ⟨n, r, b, c⟩ σ H := h
theorem w_rt {n : L2.St → Hp → Prop} {r : VK} {b c : L2.St → Hp → Prop} (h : r v H) : Ends.rt ⟨n, r, b, c⟩ v H := h
theorem w_bk {n : L2.St → Hp → Prop} {r : VK} {b c : L2.St → Hp → Prop} (h : b σ H) : Ends.bk ⟨n, r, b, c⟩ σ H := h
theorem w_ct {n : L2.St → Hp → Prop} {r : VK} {b c : L2.St → Hp → Prop} (h : c σ H) : Ends.ct ⟨n, r, b, c⟩ σ H := h
theorem w_iteT {A B : Prop} (h : A) : if true = true then A else B := by rw [if_pos rfl]; exact h
instance i_w_iteT {A B : Prop} : StepX (if true = true then A else B) (A) := ⟨fun h => w_iteT h⟩
theorem w_iteF {A B : Prop} (h : B) : if false = true then A else B := by rw [if_neg Bool.false_ne_true]; exact h
instance i_w_iteF {A B : Prop} : StepX (if false = true then A else B) (B) := ⟨fun h => w_iteF h⟩
theorem w_ited {c A B : Prop} [Decidable c] (h1 : c → A) (h2 : ¬ c → B) : if decide c = true then A else B := by
  by_cases h : c
  · rw [if_pos (decide_eq_true h)]; exact h1 h
  · rw [if_neg (by rw [decide_eq_false h]; exact Bool.false_ne_true)]; exact h2 h
theorem w_iten {c A B : Prop} [Decidable c] (h1 : ¬ c → A) (h2 : c → B) : if (!decide c) = true then A else B := by
  by_cases h : c
  · rw [if_neg (by rw [decide_eq_true h]; exact Bool.false_ne_true)]; exact h2 h
  · rw [if_pos (by rw [decide_eq_false h]; rfl)]; exact h1 h
theorem w_iteb {b : Bool} {A B : Prop} (h1 : b = true → A) (h2 : b = false → B) : if b = true then A else B := by
  cases b
  · exact w_iteF (h2 rfl)
  · exact w_iteT (h1 rfl)
theorem w_itenb {b : Bool} {A B : Prop} (h1 : b = false → A) (h2 : b = true → B) : if (!b) = true then A else B := by
  cases b
  · exact w_iteT (h1 rfl)
  · exact w_iteF (h2 rfl)
theorem w_nott {A B : Prop} (h : B) : if (!true) = true then A else B := w_iteF h
instance i_w_nott {A B : Prop} : StepX (if (!true) = true then A else B) (B) := ⟨fun h => w_nott h⟩
theorem w_notf {A B : Prop} (h : A) : if (!false) = true then A else B := w_iteT h
instance i_w_notf {A B : Prop} : StepX (if (!false) = true then A else B) (A) := ⟨fun h => w_notf h⟩
theorem w_BM {K : PySem.W.Frag} {T : String} {r : V → List V → Hp → VK → Prop} (h : te σ H fun x H1 => tyV K T x H1 ∧ tr σ H1 fun xs H2 => r x xs H2 Q) : tBM K T r te tr σ H Q := h
instance i_w_BM {K : PySem.W.Frag} {T : String} {r : V → List V → Hp → VK → Prop} : StepX (tBM K T r te tr σ H Q) (te σ H fun x H1 => tyV K T x H1 ∧ tr σ H1 fun xs H2 => r x xs H2 Q) := ⟨fun h => w_BM h⟩
theorem w_BM0 {K : PySem.W.Frag} {T : String} {r : V → List V → Hp → VK → Prop} (h : te σ H fun x H1 => tyV K T x H1 ∧ r x [] H1 Q) : tBM0 K T r te σ H Q := h
instance i_w_BM0 {K : PySem.W.Frag} {T : String} {r : V → List V → Hp → VK → Prop} : StepX (tBM0 K T r te σ H Q) (te σ H fun x H1 => tyV K T x H1 ∧ r x [] H1 Q) := ⟨fun h => w_BM0 h⟩
theorem w_sl {r : V → Option Int → Option Int → Hp → VK → Prop} {tl th : TO} (h : te σ H fun x H1 => tl σ H1 fun l H2 => th σ H2 fun u H3 => r x l u H3 Q) : tSl r te tl th σ H Q := h
instance i_w_sl {r : V → Option Int → Option Int → Hp → VK → Prop} {tl th : TO} : StepX (tSl r te tl th σ H Q) (te σ H fun x H1 => tl σ H1 fun l H2 => th σ H2 fun u H3 => r x l u H3 Q) := ⟨fun h => w_sl h⟩
theorem w_nopart (h : QO none H) : tNoPart σ H QO := h
instance i_w_nopart : StepX (tNoPart σ H QO) (QO none H) := ⟨fun h => w_nopart h⟩
theorem w_ixL {K : PySem.W.Frag} {p : Addr} {xs : List V} {i : Int} (hs : SqL K H p xs) (ha : atI xs i = some v) (h : Q v H) : rIxL K (.ref p) (.int i) H Q := ⟨p, xs, i, v, rfl, rfl, hs, ha, h⟩
theorem w_ixT {K : PySem.W.Frag} {p : Addr} {xs : List V} {i : Int} (hs : SqT K H p xs) (ha : atI xs i = some v) (h : Q v H) : rIxT K (.ref p) (.int i) H Q := ⟨p, xs, i, v, rfl, rfl, hs, ha, h⟩
theorem w_dnewK (h : ∀ p, H p = none → Q (.ref p) (upd H p (.dK []))) : tDNewK σ H Q := h
end
end TP
namespace PySem
open Sem (wp)
theorem tp_enum_new {v : Value} {o : Obj} {H : Heap → Prop} (B : Begins v o H) :
    Meets (Builtin.«enumerate.__new__» ⟨[.type "enumerate", v], []⟩) (fun _ R s => H s.heap ∧
      R (.ok (.ret (.ref (s.heap.push o).objs.size))) { s with heap := (s.heap.push o).push { cls := .type "enumerate", data := .fields #[.none, .bool false, .ref s.heap.objs.size, rawInt 0, .none, .none] } }) :=
  .of_wp fun prog w A R s h => by
    obtain ⟨hp, g, d, tk, os⟩ := s; obtain ⟨h1, h⟩ := h
    have hsub := sub_enumerate
    have q1 : ∀ {A' : Around} {E : Value → Shared → Prop} {Q : Value → Shared → Prop}, Q (.ref hp.objs.size) ⟨hp.push o, g, d, tk, os⟩ → wpAny (model prog w) A' (pyIter v) Q E ⟨hp, g, d, tk, os⟩ :=
      fun q => B.iter prog w _ _ ⟨hp, g, d, tk, os⟩ _ h1 q
    wp_walk using q1
    refine wpAny_stack_any fun st => wpAny_pure ?_
    split
    · rename_i c _ _ _ _ _
      cases (c == Value.type "enumerate") <;> (wp_walk using q1; exact ⟨_, rfl, h⟩)
    · wp_walk using q1
      exact ⟨_, rfl, h⟩
theorem tp_enum_begins {prog : Program} {w : World} {A : Around} {E : Value → Shared → Prop} {s : Shared} {v : Value} {o : Obj} {H : Heap → Prop} {Q : Value → Shared → Prop} (B : Begins v o H) (h1 : H s.heap)
    (h : ∀ h', IsEnum h' (s.heap.objs.size + 1) s.heap.objs.size 0 .none → h'.get? s.heap.objs.size = some o → h'.objs.size = s.heap.objs.size + 2 →
      (∀ b o, s.heap.get? b = some o → h'.get? b = some o) → Q (.ref (s.heap.objs.size + 1)) { s with heap := h' }) :
    wpAny (model prog w) A (call (.type "enumerate") [v]) Q E s := by
  refine callType_new F.called_enumerate (by decide) (F.typeCall_enumerate_1 _) (F.newCall_enumerate_1 _) (fun obj => F.args_object_init_2 obj _) F.entry_enumerate_new (tp_enum_new B) ⟨h1, ?_⟩
  have hz : (s.heap.push o).objs.size = s.heap.objs.size + 1 := Heap.size_push ..
  show _ ∧ _
  rw [hz]
  have he : IsEnum ((s.heap.push o).push { cls := .type "enumerate", data := .fields #[.none, .bool false, .ref s.heap.objs.size, rawInt 0, .none, .none] }) (s.heap.objs.size + 1) s.heap.objs.size 0 .none := by
    have q := Heap.get?_push_size (s.heap.push o) (o := { cls := .type "enumerate", data := .fields #[.none, .bool false, .ref s.heap.objs.size, rawInt 0, .none, .none] }) rfl
    rw [hz] at q; exact q
  exact ⟨⟨_, he, rfl⟩, h _ he (Heap.get?_push_of_some _ (Heap.get?_push_size _ B.free)) (by rw [Heap.size_push, hz]) fun b o x => Heap.get?_push_of_some _ (Heap.get?_push_of_some _ x)⟩
end PySem
namespace TP
open PySem PySem.Spec PyProof.Rows L2
def IteT (K : PySem.W.Frag) (a : Addr) : It :=
  ⟨fun i H => ∃ xs x, SqT K H a xs ∧ xs[i]? = some x, fun i H v H' => ∃ T x, v = .ref T ∧ H T = none ∧ H' = upd H T (.tup [.int (i : Nat), x]) ∧ ∀ xs, SqT K H a xs → xs[i]? = some x, fun i H => ∃ xs, SqT K H a xs ∧ xs.length = i⟩
theorem istuple_of {h : Heap} {a : Addr} {items : Array Value} (p : IsTup h a items) : h.IsTuple a items := by
  obtain ⟨o, ho, hc, n, hd⟩ := p
  exact ⟨o, ho, hc, n, hd⟩
theorem turn_enumT {P : Program} {w : World} {K : PySem.W.Frag} {elts : List Expr} {kk : Nat} {tpos : Pos} (a e it : Addr) :
    Turn P w K (.Tuple elts kk tpos) (IteT K a) [e, it] e (fun i h => (∃ old, IsEnum h e it ((i : Nat) : Int) old) ∧ h.IsTupleIter it a i ∧ e ≠ it) where
  mem := by simp
  obj := fun i h st b hb => by
    obtain ⟨⟨old, he⟩, ⟨o, ho, hc, hd⟩, _⟩ := st
    rcases (show b = e ∨ b = it by simpa using hb) with z | z
    · rw [z]; exact ⟨_, he, fun v q => nomatch q⟩
    · rw [z]; exact ⟨o, ho, fun v q => by rw [hd] at q; cases q⟩
  keep := fun i h h' st k => let ⟨⟨old, he⟩, hi, hne⟩ := st; ⟨⟨old, k e (by simp) _ he⟩, hi.at fun o q => k it (by simp) o q, hne⟩
  item := by
    intro X hP hw hK hc i pins s σ H E I hf st hg
    subst hP hw hK
    obtain ⟨⟨old, he⟩, hit, hne⟩ := st
    obtain ⟨xs, x, hq, hx⟩ := hg
    obtain ⟨its, rv, p, hz⟩ := I.tuple hq
    obtain ⟨u, hu, ru⟩ := rv.get hx
    have hel : e < s.heap.objs.size := Heap.lt_size he
    have hil : it < s.heap.objs.size := by obtain ⟨_, q, _⟩ := hit; exact Heap.lt_size q
    have hta := istuple_of p
    have nai : a ≠ it := fun z => by
      subst z
      obtain ⟨o1, h1, c1, _⟩ := hit
      obtain ⟨o2, h2, c2, _⟩ := hta
      rw [h1] at h2; cases h2
      rw [c1] at c2
      exact absurd (Value.type.inj c2) (by decide)
    have nae : a ≠ e := fun z => by
      subst z
      obtain ⟨o2, h2, c2, _⟩ := hta
      have h1 : s.heap.get? a = some _ := he
      rw [h1] at h2; cases h2
      exact absurd (Value.type.inj c2) (by decide)
    have D := Draws.tuple (prog := X.prog) (w := X.w) (A := X.A.in1) (by have := I.ok.hd hc; exact this) it a nai its.toArray
    have hlt : i < its.toArray.size := by
      obtain ⟨hh, _⟩ := List.getElem?_eq_some_iff.mp hu
      simpa using hh
    refine wpAny_pyNext_enum_itemD D he ⟨hit, hta⟩ hlt hne (by simp [Ne.symm nae, hne]) fun x' h' tk hx' ho hst' hT hsz hk => ?_
    have ex : x' = u := by
      have : its.toArray[i]? = some x' := hx'
      have q : its[i]? = some x' := by simpa using this
      rw [hu] at q; cases q; rfl
    subst ex
    refine ⟨_, rfl, wpAny_letOwnedTupleGo_enum (s := { s with heap := h', toks := tk + 1 }) ho fun h'' he' sb => ?_⟩
    have hT2 : h''.get? s.heap.objs.size = some { cls := .type "tuple", data := .seq #[.int i tk, x'] } := (sb.2 _ (Nat.ne_of_gt hel)).trans hT
    have new : ObjOk X.prog X.w (upd H s.heap.objs.size (.tup [.int (i : Nat), x])) h'' s.heap.objs.size (.tup [.int (i : Nat), x]) :=
      ⟨by show 2 ≤ sizeLine; decide, [.int i tk, x'], .cons ⟨_, rfl⟩ (.cons ru .nil), ⟨_, hT2, rfl, _, rfl⟩⟩
    have I1 : Inv X pins σ (upd H s.heap.objs.size (.tup [.int (i : Nat), x])) { s with heap := h'', toks := tk + 1 } :=
      I.turnedNew (ch := [e, it]) (fun b ob hb q => (sb.2 b (fun z => hb (by simp [z]))).trans (hk b ob (fun z => hb (by simp [z])) (fun z => hb (by simp [z])) q)) hf (Nat.le_refl _) new
    refine ⟨.ref s.heap.objs.size, _, I1, rfl, ⟨_, x, rfl, I.hok.fresh (Nat.le_refl _), rfl, fun ys hy => by rw [I.tuple_inj hy hq]; exact hx⟩, ⟨⟨x', ?_⟩, hst'.1.at fun o q => (sb.2 it (Ne.symm hne)).trans q, hne⟩, fun b hb => ?_⟩
    · have e1 : ((i + 1 : Nat) : Int) = (i : Int) + 1 := by omega
      rw [e1]; exact he'
    · have hb' : b < s.heap.objs.size := by
        rcases (show b = e ∨ b = it by simpa using hb) with z | z
        · rw [z]; exact hel
        · rw [z]; exact hil
      rw [upd_ne (Nat.ne_of_lt hb')]
      exact (hf b hb).1
  done := by
    intro X hP hw hK hc i pins s σ H E I hf st hg
    subst hP hw hK
    obtain ⟨⟨old, he⟩, hit, hne⟩ := st
    obtain ⟨xs, hq, hx⟩ := hg
    obtain ⟨its, rv, p, hz⟩ := I.tuple hq
    obtain ⟨f0, f1, f2, f3, f4, f5⟩ := hf it (by simp)
    have hl := rv.length
    have hta := istuple_of p
    have nai : a ≠ it := fun z => by
      subst z
      obtain ⟨o1, h1, c1, _⟩ := hit
      obtain ⟨o2, h2, c2, _⟩ := hta
      rw [h1] at h2; cases h2
      rw [c1] at c2
      exact absurd (Value.type.inj c2) (by decide)
    have D := Draws.tuple (prog := X.prog) (w := X.w) (A := X.A.in1) (by have := I.ok.hd hc; exact this) it a nai its.toArray
    have hi : i = its.toArray.size := by simp; omega
    exact wpAny_pyNext_enum_endD D he ⟨by rw [← hi]; exact hit, hta⟩ fun h' eb => ⟨rfl, I.turned (t' := s.toks) (fun b o hb q => eb b o hb q) f0 f1 f3 f4 f5⟩
  self := fun A i s Q E st h => let ⟨⟨_, he⟩, _⟩ := st; wpAny_pyIter_enum he h
def iEnumT (K : PySem.W.Frag) (ta : TA) : TI := fun σ H R => ta σ H fun vs H1 => ∃ a xs, vs = [.ref a] ∧ SqT K H1 a xs ∧ R (IteT K a) H1
theorem pi_enumT {X : Cx} {e : Expr} {ta : TA} {p pos tpos : Pos} {elts : List Expr} {kk : Nat} (hg : Gl X "enumerate") (hm : X.mg "enumerate" = none) (ha : PA X [e] ta) (hs : starEach [e] X.env = [(false, eval e X.env)] := by rfl) :
    PI X (.Tuple elts kk tpos) (.Call (.Name "enumerate" p) [e] [] pos) (iEnumT X.K ta) := by
  refine ⟨fun pins s σ H R I h => ?_⟩
  refine Call_ (ld_blt I hg hm boot_enumerate (PyProof.Rows.callWith_type1 (thn (ha.run pos pins s σ H _ I h) fun us s1 ⟨vs, H1, I1, r1, q1⟩ => ?_) hs rfl))
  obtain ⟨a, xs, ex, hq, q⟩ := q1
  subst ex
  obtain ⟨u, rfl, ru⟩ := vals1 r1
  have eu : u = .ref a := ru
  subst eu
  obtain ⟨its, rv, p', hz⟩ := I1.tuple hq
  refine tp_enum_begins (begins_tuple a its.toArray) (istuple_of p') fun h' he hit hsz hk => wpAny_pyIter_enum he ?_
  have I2 : Inv X pins σ H1 { s1 with heap := h' } := I1.kept (t' := s1.toks) hk
  refine ⟨s1.heap.objs.size + 1, [s1.heap.objs.size + 1, s1.heap.objs.size], _, _, H1, rfl, I2, turn_enumT a (s1.heap.objs.size + 1) s1.heap.objs.size, ⟨⟨.none, he⟩, ⟨_, hit, rfl, rfl⟩, Nat.succ_ne_self _⟩, fun b hb => ?_, q⟩
  have hle : s1.heap.objs.size ≤ b := by
    rcases (show b = s1.heap.objs.size + 1 ∨ b = s1.heap.objs.size by simpa using hb) with z | z
    · rw [z]; exact Nat.le_add_right _ _
    · rw [z]; exact Nat.le_refl _
  exact I1.fpOk hle (I1.hok.fresh hle)
theorem walk_enumT {K : PySem.W.Frag} {a : Addr} {xs : List V} : Walk (IteT K a) xs.length (fun H => SqT K H a xs) (YPair (fun i => some (.int (i : Nat))) (fun i => xs[i]?)) where
  goes := fun i H hi h => by
    obtain ⟨x, hx⟩ : ∃ x, xs[i]? = some x := ⟨_, List.getElem?_eq_getElem hi⟩
    exact ⟨xs, x, h, hx⟩
  stops := fun H h => ⟨xs, h, rfl⟩
  yields := fun i H v H' _ h ⟨T, x, e1, e2, e3, e4⟩ => ⟨T, .int (i : Nat), x, e1, e2, e3, rfl, e4 xs h⟩
end TP
namespace TP
open PySem PySem.Spec PyProof.Rows L2
def tyD : PyData → String
  | .none => "NoneType"
  | .bool _ => "bool"
  | .int _ => "int"
  | .str _ => "str"
  | .list _ => "list"
  | .tuple _ => "tuple"
  | .dict _ => "dict"
theorem w_isi {K : PySem.W.Frag} {H : Hp} {Q : VK} {v : V} {t T : String} {b : Bool} (h : TyX K H v (.type t)) (e : kitB t T = some b) (q : Q (.bl b) H) : rIsi K [v, .ty T] H Q := ⟨v, .ty T, .type t, .type T, b, rfl, .ty T, h, kit_ty e, q⟩
def repS (n : Nat) (x : Str) : Str := ⟨((List.replicate n x.cps.toList).flatten).toArray⟩
theorem foldl_cat (l : List (Array Nat)) : ∀ acc : Array Nat, l.foldl (· ++ ·) acc = acc ++ ((l.map Array.toList).flatten).toArray := by
  induction l with
  | nil => intro acc; simp
  | cons a r ih => intro acc; rw [List.foldl_cons, ih]; apply Array.ext'; simp
theorem op_mul_str {X : Cx} : OpR X (binaryOp .Mult) (fun x y H Q => ∃ (z : Str) (n : Nat), x = .str z ∧ y = .int (n : Nat) ∧ z.length * n ≤ 100000 ∧ n ≤ 100000 ∧ Q (.str (repS n z)) H) := by
  intro pins s σ H x y v u Q I rx ry h
  obtain ⟨z, n, rfl, rfl, hz, hn, q⟩ := h
  obtain ⟨t, rfl⟩ := rx
  obtain ⟨t', rfl⟩ := ry
  refine PySem.P.mul_str ?_ (fun _ _ => ?_) (fun _ _ => ?_) ?_
  · rw [decide_eq_false (show ¬ ((n : Int) < -(2 ^ 63)) by omega), decide_eq_false (show ¬ ((n : Int) ≥ 2 ^ 63) by omega)]; rfl
  · rename_i h1 h2
    have hn1 : 1 ≤ n := by omega
    have hz2 : (z.length : Int) * (n : Int) ≤ 100000 := by
      have q := Int.ofNat_le.mpr hz
      rw [Int.natCast_mul] at q
      exact q
    have hd : (z.length : Int) ≤ (2 ^ 63 - 1) / (n : Int) := Int.le_ediv_of_mul_le (by omega) (by omega)
    omega
  · unfold Builtin.Str.tooLong
    have e : ((n : Int)).toNat = n := by omega
    rw [e]
    exact decide_eq_false (by have := sz_le hz; omega)
  · have e : ((n : Int)).toNat = n := by omega
    rw [e]
    have fin : ∀ y : Str, y = repS n z → Made.post (Made.str y) (EP X pins σ Q) s := fun y ey => by
      subst ey
      refine ⟨?_, .str _, H, I.tok _, ⟨_, rfl⟩, q⟩
      show (repS n z).length ≤ sizeLine
      have el : (repS n z).length = z.length * n := by
        show ((List.replicate n z.cps.toList).flatten).toArray.size = z.cps.size * n
        simp [Nat.mul_comm]
      rw [el]; exact sz_le hz
    by_cases h1 : (n : Int) < 1
    · rw [if_pos h1]
      refine fin _ ?_
      have : n = 0 := by omega
      subst this
      rfl
    · rw [if_neg h1]
      by_cases h2 : ((n : Int) == 1 || z.length == 0) = true
      · rw [if_pos h2]
        have ez : z = repS n z := by
          rcases Bool.or_eq_true_iff.mp h2 with h3 | h3
          · have : n = 1 := by have := eq_of_beq h3; omega
            subst this
            unfold repS
            simp
          · have h4 : z.cps.size = 0 := by simpa [Str.length] using h3
            have h5 : z.cps = #[] := Array.eq_empty_of_size_eq_zero h4
            unfold repS
            cases z with
            | mk c =>
              have h6 : c = #[] := h5
              subst h6
              simp
        refine ⟨.str z, H, I, ⟨t, rfl⟩, ?_⟩
        rw [ez]
        rw [← ez]
        rw [← ez] at q
        exact q
      · rw [if_neg h2]
        refine fin _ ?_
        unfold repS
        rw [foldl_cat]
        simp
end TP
namespace TP
open PySem PySem.Spec PyProof.Rows L2
def PoolV (s d c : Int) : Prop := 0 ≤ s ∧ s < 1000000007 ∧ 0 ≤ d ∧ 0 ≤ c
def PoolAt (p : Addr) (h : Heap) : Prop := ∃ (s d c : Int) (its : List Value) (n : Nat), Vals [.int s, .int d, .int c] its ∧ PoolV s d c ∧ h.get? p = some { cls := .type "list", data := .seq its.toArray n }
def poolO (p : Addr) : HO := .ext (PoolAt p)
section
variable {P : Program} {w : World} {H H0 : Hp} {h h' : Heap} {p : Addr}
theorem objok_retrack {o u : HO} {a : Addr} (hp : H p = some o) (no : ∀ y, o ≠ .own y) (nt : ∀ xs, o ≠ .tup xs) {v : HO} (x : ObjOk P w H h a v) : ObjOk P w (upd H p u) h a v := by
  refine x.stay (fun b w' _ e => e) (fun b e => ?_) fun b xs e => ?_
  · exact (upd_ne (ne_of e hp fun z => no a z.symm)).trans e
  · exact (upd_ne (ne_of e hp fun z => nt xs z.symm)).trans e
theorem hok_retrack {o u : HO} (ok : HOk P w H h) (hp : H p = some o) (no : ∀ y, o ≠ .own y) (nt : ∀ xs, o ≠ .tup xs) (new : ObjOk P w (upd H p u) h p u) : HOk P w (upd H p u) h := fun a v e => by
  by_cases z : a = p
  · subst z; rw [upd_same] at e; cases e; exact new
  · rw [upd_ne z] at e
    exact objok_retrack hp no nt (ok a v e)
theorem pool_of_lst {s d c : Int} (ok : HOk P w H h) (hp : H p = some (.lst [.int s, .int d, .int c])) (hv : PoolV s d c) : HOk P w (upd H p (poolO p)) h := by
  refine hok_retrack ok hp (fun _ => nofun) (fun _ => nofun) ?_
  obtain ⟨_, its, n, r, e⟩ := ok p _ hp
  exact ⟨⟨s, d, c, its, n, r, hv, e⟩, ⟨_, e⟩, fun h1 h2 ⟨s, d, c, its, n, r, hv, e⟩ k => ⟨s, d, c, its, n, r, hv, k _ e⟩⟩
theorem lst_of_pool (ok : HOk P w H h) (hp : H p = some (poolO p)) : ∃ s d c, PoolV s d c ∧ HOk P w (upd H p (.lst [.int s, .int d, .int c])) h := by
  obtain ⟨⟨s, d, c, its, n, r, hv, e⟩, _, _⟩ := ok p _ hp
  exact ⟨s, d, c, hv, hok_retrack ok hp (fun _ => nofun) (fun _ => nofun) ⟨by show 3 ≤ sizeLine; decide, its, n, r, e⟩⟩
theorem un_retrack {fs ex : List Addr} {o u : HO} (un : Un fs ex H0 H h h') (hp : H p = some o) (nt : ∀ xs, o ≠ .tup xs) (nf : ∀ a b, o ≠ .frz a b) (nb : ∀ ps, o ≠ .tbl ps) : Un fs ex H0 (upd H p u) h h' where
  keep := un.keep
  slot := un.slot
  free := fun b ob e n hx => by
    have z := un.free b ob e n hx
    rw [upd_ne (fun q => by rw [q, hp] at z; cases z)]; exact z
  there := un.there
  tups := fun b xs e => by have z := un.tups b xs e; exact (upd_ne (ne_of z hp fun q => nt xs q.symm)).trans z
  frzs := fun b ob v e => by have z := un.frzs b ob v e; exact (upd_ne (ne_of z hp fun q => nf _ _ q.symm)).trans z
  tbls := fun b ps e => by
    obtain ⟨more, z⟩ := un.tbls b ps e
    exact ⟨more, (upd_ne (ne_of z hp fun q => nb _ q.symm)).trans z⟩
theorem un_retrack0 {fs ex : List Addr} {o u : HO} (un : Un fs ex (upd H0 p u) H h h') (hp : H0 p = some o) (nt : ∀ xs, o ≠ .tup xs) (nf : ∀ a b, o ≠ .frz a b) (nb : ∀ ps, o ≠ .tbl ps) : Un fs ex H0 H h h' := by
  have off : ∀ b, H0 b = none → upd H0 p u b = none := fun b n => by rw [upd_ne (fun q => by rw [q, hp] at n; cases n)]; exact n
  refine ⟨fun b ob e n => un.keep b ob e (off b n), fun b ob e n => un.slot b ob e (off b n), fun b ob e n => un.free b ob e (off b n), un.there, fun b xs e => un.tups b xs ?_, fun b ob v e => un.frzs b ob v ?_, fun b ps e => un.tbls b ps ?_⟩
  · exact (upd_ne (ne_of e hp fun q => nt xs q.symm)).trans e
  · exact (upd_ne (ne_of e hp fun q => nf _ _ q.symm)).trans e
  · exact (upd_ne (ne_of e hp fun q => nb _ q.symm)).trans e
theorem env_retrack {K : PySem.W.Frag} {mg : Str → Option Value} {base : Heap} {A : Around} {outer : List Env} {s : Shared} {o u : HO} (e0 : Env0 P w K mg base A outer s H) (hp : H p = some o) (ok : HOk P w (upd H p u) s.heap) : Env0 P w K mg base A outer s (upd H p u) := by
  have off : ∀ b, H b = none → upd H p u b = none := fun b n => by rw [upd_ne (fun q => by rw [q, hp] at n; cases n)]; exact n
  exact ⟨e0.frames, e0.mod, fun b ob e => ⟨(e0.bs b ob e).1, off b (e0.bs b ob e).2⟩, e0.bsz, e0.funs, fun b hb => off b (e0.frf b hb), ok, e0.bare⟩
end
def spDrawC : Sp := fun vs H Q _ => ∃ (p : Addr) (s d c m : Int), vs = [.ref p, .int m] ∧ H p = some (.lst [.int s, .int d, .int c]) ∧ PoolV s d c ∧ 0 < m ∧ m < 2 ^ 200 ∧
  ∀ (r s' d' c' : Int) (H' : Hp), 0 ≤ r → r < m → SameB p H H' → H' p = some (.lst [.int s', .int d', .int c']) → PoolV s' d' c' → Q (.int r) H'
def spDraw : Sp := fun vs H Q _ => ∃ (p : Addr) (m : Int), vs = [.ref p, .int m] ∧ H p = some (poolO p) ∧ 0 < m ∧ m < 2 ^ 200 ∧
  ∀ (r : Int) (H' : Hp), 0 ≤ r → r < m → Same H H' → Q (.int r) H'
def spPoolC : Sp := fun vs H Q _ => ∃ n : Int, vs = [.int n] ∧ ∀ (p : Addr) (s d c : Int) (H' : Hp), H p = none → Same H H' → H' p = some (.lst [.int s, .int d, .int c]) → PoolV s d c → Q (.ref p) H'
def spPool : Sp := fun vs H Q _ => ∃ n : Int, vs = [.int n] ∧ ∀ (p : Addr) (H' : Hp), H p = none → Same H H' → H' p = some (poolO p) → Q (.ref p) H'
section
variable {P : Program} {w : World} {K : PySem.W.Frag} {mg : Str → Option Value} {base : Heap} {k : Nat} {f : Addr} {fd : FuncData} {ps : List Str}
theorem draw_wrap (F : FnG P w K mg base CX0 k f fd ps spDrawC) (hl : ps.length = 2) : FnG P w K mg base CX0 k f fd ps spDraw := by
  refine ⟨fun vs H Q E ⟨p, m, e, _⟩ => by rw [e, hl]; rfl, fun A outer s H args us vs Q E hr hg e0 hb r hsp => ?_⟩
  obtain ⟨p, m, rfl, hp, m0, m1, q⟩ := hsp
  obtain ⟨s0, d0, c0, hv, ok1⟩ := lst_of_pool e0.hok hp
  refine codeAny_mono (F.run A outer s (upd H p (.lst [.int s0, .int d0, .int c0])) args us [.ref p, .int m] (fun v H1 => ∃ (r s' d' c' : Int), v = .int r ∧ 0 ≤ r ∧ r < m ∧ SameB p (upd H p (.lst [.int s0, .int d0, .int c0])) H1 ∧ H1 p = some (.lst [.int s', .int d', .int c']) ∧ PoolV s' d' c') E hr hg (env_retrack e0 hp ok1) hb r
    ⟨p, s0, d0, c0, m, rfl, upd_same, hv, m0, m1, fun r s' d' c' H' h0 h1 sb hq hv' => ⟨r, s', d', c', rfl, h0, h1, sb, hq, hv'⟩⟩) fun z s' hz => ?_
  cases z with
  | error e => exact hz
  | ok fl =>
    cases fl with
    | next => exact hz
    | brk => exact hz
    | cont => exact hz
    | ret u =>
      obtain ⟨v, H1, os, bare, un, hok1, rv, r, s2, d2, c2, rfl, h0, h1, sb, hq, hv2⟩ := hz
      refine ⟨.int r, upd H1 p (poolO p), os, bare, ?_, pool_of_lst hok1 hq hv2, rv, q r _ h0 h1 fun b o e => ?_⟩
      · exact un_retrack0 (un_retrack un hq (fun _ => nofun) (fun _ _ => nofun) fun _ => nofun) hp (fun _ => nofun) (fun _ _ => nofun) fun _ => nofun
      · by_cases z : b = p
        · subst z; rw [hp] at e; cases e; exact upd_same
        · rw [upd_ne z]; exact sb b o z ((upd_ne z).trans e)
theorem pool_wrap (F : FnG P w K mg base CX0 k f fd ps spPoolC) (hl : ps.length = 1) : FnG P w K mg base CX0 k f fd ps spPool := by
  refine ⟨fun vs H Q E ⟨n, e, _⟩ => by rw [e, hl]; rfl, fun A outer s H args us vs Q E hr hg e0 hb r hsp => ?_⟩
  obtain ⟨n, rfl, q⟩ := hsp
  refine codeAny_mono (F.run A outer s H args us [.int n] (fun v H1 => ∃ (p : Addr) (s' d' c' : Int), v = .ref p ∧ H p = none ∧ Same H H1 ∧ H1 p = some (.lst [.int s', .int d', .int c']) ∧ PoolV s' d' c') E hr hg e0 hb r
    ⟨n, rfl, fun p s' d' c' H' h0 sb hq hv' => ⟨p, s', d', c', rfl, h0, sb, hq, hv'⟩⟩) fun z s' hz => ?_
  cases z with
  | error e => exact hz
  | ok fl =>
    cases fl with
    | next => exact hz
    | brk => exact hz
    | cont => exact hz
    | ret u =>
      obtain ⟨v, H1, os, bare, un, hok1, rv, p, s2, d2, c2, rfl, h0, sb, hq, hv2⟩ := hz
      refine ⟨.ref p, upd H1 p (poolO p), os, bare, ?_, pool_of_lst hok1 hq hv2, rv, q p _ h0 (fun b o e => ?_) upd_same⟩
      · exact un_retrack un hq (fun _ => nofun) (fun _ _ => nofun) fun _ => nofun
      · rw [upd_ne (ne_of_none e h0)]; exact sb b o e
end
section
variable {P : Program} {w : World} {K : PySem.W.Frag} {mg : Str → Option Value} {base : Heap} {k : Nat} {x : Str} {st : Stmt} {ps : List Str}
theorem has_draw (F : Has P w K mg base CX0 k x st ps spDrawC) (hl : ps.length = 2) : Has P w K mg base CX0 k x st ps spDraw := by
  obtain ⟨fd, D, G⟩ := F.ex
  exact ⟨⟨fd, D, draw_wrap G hl⟩, F.glo⟩
theorem has_pool (F : Has P w K mg base CX0 k x st ps spPoolC) (hl : ps.length = 1) : Has P w K mg base CX0 k x st ps spPool := by
  obtain ⟨fd, D, G⟩ := F.ex
  exact ⟨⟨fd, D, pool_wrap G hl⟩, F.glo⟩
end
end TP
namespace TP
open PySem PySem.Spec PyProof.Rows L2
def ForOk (J : It) (g : TG) (tb : TS) (D : Ends) (σ : L2.St) (H : Hp) : Prop := ∃ W : Nat → Nat → L2.St → Hp → Prop, (∃ m, W 0 m σ H) ∧ ∀ i m σ H, W i m σ H →
  (J.stop i H ∧ D.nx σ H) ∨ (J.go i H ∧ ∃ N : L2.St → Hp → Prop, (∀ σ' H', N σ' H' → ∃ m', m' < m ∧ W (i + 1) m' σ' H') ∧ ∀ x H', J.yld i H x H' → g x σ H' fun σ2 H2 => tb { D with nx := N, ct := N, bk := D.nx } σ2 H2)
def LcI (H1 : Hp) (D : Addr) (Acc : Nat → List V → Hp → Prop) (i : Nat) (H : Hp) : Prop := ∃ acc, Same H1 H ∧ H D = some (.lst acc) ∧ acc.length ≤ i ∧ Acc i acc H
def LcY (H1 : Hp) (D : Addr) (Acc : Nat → List V → Hp → Prop) (i : Nat) (y : V) (H : Hp) : Prop := ∃ acc, H D = some (.lst acc) ∧ acc.length < sizeLine ∧ LcI H1 D Acc (i + 1) (upd H D (.lst (acc ++ [y])))
def LcOk (J : It) (g : TG) (tt : TT) (te : TE) (vs : List Nat) (σ : L2.St) (H1 : Hp) (D : Addr) (Q : VK) : Prop := ∃ W : Nat → Nat → Hp → Prop, (∃ m, W 0 m (upd H1 D (.lst []))) ∧ ∀ i m H, W i m H →
  (J.stop i H ∧ Q (.ref D) H) ∨ (J.go i H ∧ ∃ Nx : Hp → Prop, (∀ H', Nx H' → ∃ m', m' < m ∧ W (i + 1) m' H') ∧ ∀ x H', J.yld i H x H' → g x (wipe σ vs) H' fun σ2 H2 => wipe σ2 vs = wipe σ vs ∧ tt σ2 H2 fun b H3 =>
    if b = true then te σ2 H3 fun y H4 => ∃ acc, H4 D = some (.lst acc) ∧ acc.length < sizeLine ∧ Nx (upd H4 D (.lst (acc ++ [y]))) else Nx H3)
section
variable {J : It} {n : Nat} {G : Hp → Prop} {Y : Nat → Hp → V → Hp → Prop} {g : TG} {tt : TT} {te : TE} {tb : TS} {De : Ends} {wi : TI} {vs : List Nat} {σ : L2.St} {H H1 H2 : Hp} {D : Addr} {Q : VK} {Acc : Nat → List V → Hp → Prop} {K : PySem.W.Frag}
theorem w_for (h : wi σ H fun J H1 => ForOk J g tb De σ H1) : tFor wi g tb De σ H := h
instance i_w_for : StepX (tFor wi g tb De σ H) (wi σ H fun J H1 => ForOk J g tb De σ H1) := ⟨fun h => w_for h⟩
theorem w_lc (h : wi σ H fun J H1 => ∀ D, H1 D = none → LcOk J g tt te vs σ H1 D Q) : tLc wi g tt te vs σ H Q := h
instance i_w_lc : StepX (tLc wi g tt te vs σ H Q) (wi σ H fun J H1 => ∀ D, H1 D = none → LcOk J g tt te vs σ H1 D Q) := ⟨fun h => w_lc h⟩
theorem w_yes {QB : Bool → Hp → Prop} (h : QB true H) : tYes σ H QB := h
instance i_w_yes {QB : Bool → Hp → Prop} : StepX (tYes σ H QB) (QB true H) := ⟨fun h => w_yes h⟩
theorem for_go (w : Walk J n G Y) (Pv : Nat → L2.St → Hp → Prop) (h0 : Pv 0 σ H) (hG : ∀ i σ H, i ≤ n → Pv i σ H → G H)
    (hs : ∀ i x σ H H', i < n → Pv i σ H → Y i H x H' → g x σ H' fun σ2 H2 => tb { De with nx := Pv (i + 1), ct := Pv (i + 1), bk := De.nx } σ2 H2) (hd : ∀ σ H, Pv n σ H → De.nx σ H) : ForOk J g tb De σ H := for_it w Pv h0 hG hs hd
theorem lc_go (w : Walk J n G Y) (Acc : Nat → List V → Hp → Prop) (hD : H1 D = none) (hG : ∀ H, Same H1 H → G H) (h0 : Acc 0 [] (upd H1 D (.lst [])))
    (hs : ∀ i x H H' acc, i < n → Same H1 H → H D = some (.lst acc) → acc.length ≤ i → Acc i acc H → Y i H x H' → g x (wipe σ vs) H' fun σ2 H2 => wipe σ2 vs = wipe σ vs ∧ tt σ2 H2 fun b H3 =>
      if b = true then te σ2 H3 fun y H4 => LcY H1 D Acc i y H4 else LcI H1 D Acc (i + 1) H3)
    (hd : ∀ acc H, Same H1 H → H D = some (.lst acc) → acc.length ≤ n → Acc n acc H → Q (.ref D) H) : LcOk J g tt te vs σ H1 D Q :=
  lc_it w (fun i H => LcI H1 D Acc i H) ⟨[], same_new hD, upd_same, Nat.le_refl _, h0⟩ (fun i H _ ⟨_, s, _⟩ => hG H s) (fun i x H H' hi ⟨acc, s, e, l, a⟩ hy => hs i x H H' acc hi s e l a hy) fun H ⟨acc, s, e, l, a⟩ => hd acc H s e l a
theorem lc_y {i : Nat} {y : V} {acc : List V} (hD : H1 D = none) (s : Same H1 H) (e : H D = some (.lst acc)) (l : acc.length ≤ i) (hi : i < 100000) (a : Acc (i + 1) (acc ++ [y]) (upd H D (.lst (acc ++ [y])))) : LcY H1 D Acc i y H :=
  ⟨acc, e, sz_lt (by omega), acc ++ [y], same_mut s hD, upd_same, by simp; omega, a⟩
theorem lc_skip {i : Nat} {acc : List V} (s : Same H1 H) (e : H D = some (.lst acc)) (l : acc.length ≤ i) (a : Acc (i + 1) acc H) : LcI H1 D Acc (i + 1) H := ⟨acc, s, e, Nat.le_succ_of_le l, a⟩
theorem lc_map (w : Walk J n G Y) (hn : n ≤ 100000) (f : Nat → V → Prop) (hD : H1 D = none) (hG : ∀ H, Same H1 H → G H)
    (hs : ∀ i x H H', i < n → Same H1 H → Y i H x H' → ∀ Qy : VK, (∀ y H4, Same H H4 → f i y → Qy y H4) → g x (wipe σ vs) H' fun σ2 H2 => wipe σ2 vs = wipe σ vs ∧ te σ2 H2 Qy)
    (hd : ∀ acc H, Same H1 H → H1 D = none → H D = some (.lst acc) → acc.length = n → (∀ i y, acc[i]? = some y → f i y) → Q (.ref D) H)
    (mono : ∀ {x σ H} {Q Q' : L2.St → Hp → Prop}, (∀ σ H, Q σ H → Q' σ H) → g x σ H Q → g x σ H Q') : LcOk J g tYes te vs σ H1 D Q := by
  let AccM : Nat → List V → Hp → Prop := fun i acc H => acc.length = i ∧ ∀ (j : Nat) (y : V), acc[j]? = some y → f j y
  refine lc_go w AccM hD hG ⟨rfl, fun j y e => by simp at e⟩ (fun i x H H' acc hi s e l a hy => ?_) fun acc H s e _ a => hd acc H s hD e a.1 a.2
  refine mono (fun σ2 H2 q => ⟨q.1, ?_⟩) (hs i x H H' hi s hy (fun y H4 => LcY H1 D AccM i y H4) fun y H4 s4 fy => lc_y (Acc := AccM) hD (s.trans s4) (s4 _ _ e) l (by omega) ⟨by simp [a.1], fun j z ej => ?_⟩)
  · exact w_yes (w_iteT q.2)
  · by_cases q : j < acc.length
    · rw [List.getElem?_append_left q] at ej; exact a.2 j z ej
    · rw [List.getElem?_append_right (Nat.le_of_not_lt q)] at ej
      have q2 : j = acc.length := by
        obtain ⟨h1, _⟩ := List.getElem?_eq_some_iff.mp ej
        simp at h1; omega
      subst q2
      simp at ej
      subst ej
      rw [a.1]; exact fy
theorem mono_gname {j : Nat} : ∀ {x σ H} {Q Q' : L2.St → Hp → Prop}, (∀ σ H, Q σ H → Q' σ H) → gName j x σ H Q → gName j x σ H Q' := fun h q => h _ _ q
def OnT (K : PySem.W.Frag) (R : It → Hp → Prop) (v : V) (H : Hp) : Prop := ∃ a, v = .ref a ∧ (∃ xs, SqT K H a xs) ∧ R (Itt K a) H
def OnL (K : PySem.W.Frag) (R : It → Hp → Prop) (v : V) (H : Hp) : Prop := ∃ a, v = .ref a ∧ (∃ xs, SqL K H a xs) ∧ R (Itl K a) H
def OnS (R : It → Hp → Prop) (v : V) (H : Hp) : Prop := ∃ x, v = .str x ∧ R (Its x) H
def OnR1 (R : It → Hp → Prop) (vs : List V) (H : Hp) : Prop := ∃ j : Int, vs = [.int j] ∧ -(2 ^ 62) ≤ j ∧ j < 2 ^ 62 ∧ R (Itr 0 j.toNat) H
def OnR2 (R : It → Hp → Prop) (vs : List V) (H : Hp) : Prop := ∃ i j : Int, vs = [.int i, .int j] ∧ (-(2 ^ 62) ≤ i ∧ i < 2 ^ 62 ∧ -(2 ^ 62) ≤ j ∧ j < 2 ^ 62) ∧ R (Itr i (j - i).toNat) H
def OnE (K : PySem.W.Frag) (R : It → Hp → Prop) (vs : List V) (H : Hp) : Prop := ∃ a xs, vs = [.ref a] ∧ SqT K H a xs ∧ R (IteT K a) H
variable {R : It → Hp → Prop} {ta : TA} {a : Addr} {xs : List V}
theorem w_iTup (h : te σ H (OnT K R)) : iTup K te σ H R := h
instance i_w_iTup : StepX (iTup K te σ H R) (te σ H (OnT K R)) := ⟨fun h => w_iTup h⟩
theorem w_iList (h : te σ H (OnL K R)) : iList K te σ H R := h
instance i_w_iList : StepX (iList K te σ H R) (te σ H (OnL K R)) := ⟨fun h => w_iList h⟩
theorem w_iStr (h : te σ H (OnS R)) : iStr te σ H R := h
instance i_w_iStr : StepX (iStr te σ H R) (te σ H (OnS R)) := ⟨fun h => w_iStr h⟩
theorem w_iRng1 (h : ta σ H (OnR1 R)) : iRng1 ta σ H R := h
instance i_w_iRng1 : StepX (iRng1 ta σ H R) (ta σ H (OnR1 R)) := ⟨fun h => w_iRng1 h⟩
theorem w_iRng2 (h : ta σ H (OnR2 R)) : iRng2 ta σ H R := h
instance i_w_iRng2 : StepX (iRng2 ta σ H R) (ta σ H (OnR2 R)) := ⟨fun h => w_iRng2 h⟩
theorem w_iEnumT (h : ta σ H (OnE K R)) : iEnumT K ta σ H R := h
instance i_w_iEnumT : StepX (iEnumT K ta σ H R) (ta σ H (OnE K R)) := ⟨fun h => w_iEnumT h⟩
theorem w_onT (hs : SqT K H a xs) (h : R (Itt K a) H) : OnT K R (.ref a) H := ⟨a, rfl, ⟨xs, hs⟩, h⟩
theorem w_onL (hs : SqL K H a xs) (h : R (Itl K a) H) : OnL K R (.ref a) H := ⟨a, rfl, ⟨xs, hs⟩, h⟩
theorem w_onS {x : Str} (h : R (Its x) H) : OnS R (.str x) H := ⟨x, rfl, h⟩
instance i_w_onS {x : Str} : StepX (OnS R (.str x) H) (R (Its x) H) := ⟨fun h => w_onS h⟩
theorem w_onR1 {j : Int} (h1 : -(2 ^ 62) ≤ j ∧ j < 2 ^ 62) (h : R (Itr 0 j.toNat) H) : OnR1 R [.int j] H := ⟨j, rfl, h1.1, h1.2, h⟩
theorem w_onE (hs : SqT K H a xs) (h : R (IteT K a) H) : OnE K R [.ref a] H := ⟨a, xs, rfl, hs, h⟩
end
def rLenV (K : PySem.W.Frag) : List V → Hp → VK → Prop := fun xs H Q => ∃ x n, xs = [x] ∧ LenV K x H n ∧ Q (.int n) H
def rAbs : List V → Hp → VK → Prop := fun xs H Q => ∃ i, xs = [.int i] ∧ Q (.int (if i < 0 then -i else i)) H
def rMx2 : List V → Hp → VK → Prop := fun xs H Q => ∃ i j, xs = [.int i, .int j] ∧ Q (.int (if j > i then j else i)) H
def rMn2 : List V → Hp → VK → Prop := fun xs H Q => ∃ i j, xs = [.int i, .int j] ∧ Q (.int (if j < i then j else i)) H
def rInt1 : List V → Hp → VK → Prop := fun xs H Q => (∃ i, xs = [.int i] ∧ Q (.int i) H) ∨ ∃ k, xs = [.bl k] ∧ Q (.int (if k then 1 else 0)) H
def rListS (K : PySem.W.Frag) : List V → Hp → VK → Prop := fun xs H Q => ∃ p ys, xs = [.ref p] ∧ (SqL K H p ys ∨ SqT K H p ys) ∧ ∀ l, H l = none → Q (.ref l) (upd H l (.lst ys))
def rTupS (K : PySem.W.Frag) : List V → Hp → VK → Prop := fun xs H Q => ∃ p ys, xs = [.ref p] ∧ ((SqL K H p ys ∧ ∀ l, H l = none → Q (.ref l) (upd H l (.tup ys))) ∨ (SqT K H p ys ∧ Q (.ref p) H))
def rDivW : List V → Hp → VK → Prop := fun xs H Q => ∃ i j, xs = [.int i, .int j] ∧ CDivP i j ∧ ∀ p, H p = none → Q (.ref p) (upd H p (.tup [.int (i / j), .int (i % j)]))
def rInSign : R2 := fun x y H Q => ∃ (c : Nat) (z : Str), x = .str ⟨#[c]⟩ ∧ y = .str z ∧ Q (.bl (decide (c ∈ z.cps.toList))) H
def rIsN : R2 := fun x y H Q => y = .non ∧ Q (.bl (decide (x = .non))) H
def rNotN : R2 := fun x y H Q => y = .non ∧ Q (.bl (!decide (x = .non))) H
def rLeS : R2 := fun x y H Q => ∃ i j, x = .str i ∧ y = .str j ∧ Q (.bl (!decide (j.cps.toList < i.cps.toList))) H
def rAddS : R2 := fun x y H Q => ∃ i j, x = .str i ∧ y = .str j ∧ i.length + j.length ≤ sizeLine ∧ Q (.str (i ++ j)) H
def rMulS : R2 := fun x y H Q => ∃ (z : Str) (n : Nat), x = .str z ∧ y = .int (n : Nat) ∧ z.length * n ≤ 100000 ∧ n ≤ 100000 ∧ Q (.str (repS n z)) H
def rJoin (K : PySem.W.Frag) : V → List V → Hp → VK → Prop := fun x xs H Q => ∃ a p, ∃ ys : List Str, x = .str a ∧ xs = [.ref p] ∧ (SqL K H p (ys.map V.str) ∨ SqT K H p (ys.map V.str)) ∧ (ys.map (·.length)).sum + ys.length * a.length ≤ 16777216 ∧ Q (.str (Txt.join a ys)) H
section
variable {X : Cx}
theorem c_len : CallR X (.builtin "len") (rLenV X.K) := call_len
theorem c_abs : CallR X (.builtin "abs") rAbs := call_abs
theorem c_max2 (hc : X.calm = true) : CallR X (.builtin "max") rMx2 := call_max2 hc
theorem c_min2 (hc : X.calm = true) : CallR X (.builtin "min") rMn2 := call_min2 hc
theorem c_int1 : CallR X (.type "int") rInt1 := call_int1
theorem c_list : CallR X (.type "list") (rListS X.K) := call_list_of
theorem c_tuple : CallR X (.type "tuple") (rTupS X.K) := call_tuple_of
theorem c_divmod : CallR X (.builtin "divmod") rDivW := call_divmodW
theorem o_inSign : OpR X (compareOp .In) rInSign := op_in_sign
theorem o_isN : OpR X (compareOp .Is) rIsN := op_isN
theorem o_notN : OpR X (compareOp .IsNot) rNotN := op_notN
theorem o_leS : OpR X (compareOp .LtE) rLeS := op_le_str
theorem o_addS : OpR X (binaryOp .Add) rAddS := op_add_str
theorem o_mulS : OpR X (binaryOp .Mult) rMulS := op_mul_str
end
section
variable {σ : L2.St} {H : Hp} {Q : VK} {K : PySem.W.Frag} {v x y : V} {a p : Addr} {xs ys : List V}
theorem w_lenT (hs : SqT K H a xs) (h : Q (.int (xs.length : Nat)) H) : rLenV K [.ref a] H Q := ⟨_, _, rfl, .inr ⟨xs, hs, rfl⟩, h⟩
theorem w_lenL (hs : SqL K H a xs) (h : Q (.int (xs.length : Nat)) H) : rLenV K [.ref a] H Q := ⟨_, _, rfl, .inl ⟨xs, hs, rfl⟩, h⟩
theorem w_lenS {z : Str} (hz : z.length ≤ sizeLine) (h : Q (.int (z.length : Nat)) H) : rLenV K [.str z] H Q := ⟨_, _, rfl, ⟨hz, rfl⟩, h⟩
theorem w_abs {i : Int} (h : Q (.int (if i < 0 then -i else i)) H) : rAbs [.int i] H Q := ⟨i, rfl, h⟩
instance i_w_abs {i : Int} : StepX (rAbs [.int i] H Q) (Q (.int (if i < 0 then -i else i)) H) := ⟨fun h => w_abs h⟩
theorem w_mx2 {i j : Int} (h : Q (.int (if j > i then j else i)) H) : rMx2 [.int i, .int j] H Q := ⟨i, j, rfl, h⟩
instance i_w_mx2 {i j : Int} : StepX (rMx2 [.int i, .int j] H Q) (Q (.int (if j > i then j else i)) H) := ⟨fun h => w_mx2 h⟩
theorem w_mn2 {i j : Int} (h : Q (.int (if j < i then j else i)) H) : rMn2 [.int i, .int j] H Q := ⟨i, j, rfl, h⟩
instance i_w_mn2 {i j : Int} : StepX (rMn2 [.int i, .int j] H Q) (Q (.int (if j < i then j else i)) H) := ⟨fun h => w_mn2 h⟩
theorem w_int1 {i : Int} (h : Q (.int i) H) : rInt1 [.int i] H Q := .inl ⟨i, rfl, h⟩
instance i_w_int1 {i : Int} : StepX (rInt1 [.int i] H Q) (Q (.int i) H) := ⟨fun h => w_int1 h⟩
theorem w_listT (hs : SqT K H a xs) (h : ∀ l, H l = none → Q (.ref l) (upd H l (.lst xs))) : rListS K [.ref a] H Q := ⟨a, xs, rfl, .inr hs, h⟩
theorem w_tupL (hs : SqL K H a xs) (h : ∀ l, H l = none → Q (.ref l) (upd H l (.tup xs))) : rTupS K [.ref a] H Q := ⟨a, xs, rfl, .inl ⟨hs, h⟩⟩
theorem w_divW {i j : Int} (c : CDivP i j) (h : ∀ p, H p = none → Q (.ref p) (upd H p (.tup [.int (i / j), .int (i % j)]))) : rDivW [.int i, .int j] H Q := ⟨i, j, rfl, c, h⟩
theorem w_inSign {c : Nat} {z : Str} (h : Q (.bl (decide (c ∈ z.cps.toList))) H) : rInSign (.str ⟨#[c]⟩) (.str z) H Q := ⟨c, z, rfl, rfl, h⟩
instance i_w_inSign {c : Nat} {z : Str} : StepX (rInSign (.str ⟨#[c]⟩) (.str z) H Q) (Q (.bl (decide (c ∈ z.cps.toList))) H) := ⟨fun h => w_inSign h⟩
theorem w_isN (h : Q (.bl (decide (x = .non))) H) : rIsN x .non H Q := ⟨rfl, h⟩
instance i_w_isN : StepX (rIsN x .non H Q) (Q (.bl (decide (x = .non))) H) := ⟨fun h => w_isN h⟩
theorem w_notN (h : Q (.bl (!decide (x = .non))) H) : rNotN x .non H Q := ⟨rfl, h⟩
instance i_w_notN : StepX (rNotN x .non H Q) (Q (.bl (!decide (x = .non))) H) := ⟨fun h => w_notN h⟩
theorem w_isNN (h : Q (.bl true) H) : rIsN .non .non H Q := ⟨rfl, h⟩
instance i_w_isNN : StepX (rIsN .non .non H Q) (Q (.bl true) H) := ⟨fun h => w_isNN h⟩
theorem w_isNI {i : Int} (h : Q (.bl false) H) : rIsN (.int i) .non H Q := ⟨rfl, by have e : decide (V.int i = V.non) = false := decide_eq_false nofun; rw [e]; exact h⟩
instance i_w_isNI {i : Int} : StepX (rIsN (.int i) .non H Q) (Q (.bl false) H) := ⟨fun h => w_isNI h⟩
theorem w_isNR (h : Q (.bl false) H) : rIsN (.ref a) .non H Q := ⟨rfl, by have e : decide (V.ref a = V.non) = false := decide_eq_false nofun; rw [e]; exact h⟩
instance i_w_isNR : StepX (rIsN (.ref a) .non H Q) (Q (.bl false) H) := ⟨fun h => w_isNR h⟩
theorem w_notNN (h : Q (.bl false) H) : rNotN .non .non H Q := ⟨rfl, h⟩
instance i_w_notNN : StepX (rNotN .non .non H Q) (Q (.bl false) H) := ⟨fun h => w_notNN h⟩
theorem w_notNI {i : Int} (h : Q (.bl true) H) : rNotN (.int i) .non H Q := ⟨rfl, by have e : decide (V.int i = V.non) = false := decide_eq_false nofun; rw [e]; exact h⟩
instance i_w_notNI {i : Int} : StepX (rNotN (.int i) .non H Q) (Q (.bl true) H) := ⟨fun h => w_notNI h⟩
theorem w_notNR (h : Q (.bl true) H) : rNotN (.ref a) .non H Q := ⟨rfl, by have e : decide (V.ref a = V.non) = false := decide_eq_false nofun; rw [e]; exact h⟩
instance i_w_notNR : StepX (rNotN (.ref a) .non H Q) (Q (.bl true) H) := ⟨fun h => w_notNR h⟩
theorem w_leS {i j : Str} (h : Q (.bl (!decide (j.cps.toList < i.cps.toList))) H) : rLeS (.str i) (.str j) H Q := ⟨i, j, rfl, rfl, h⟩
instance i_w_leS {i j : Str} : StepX (rLeS (.str i) (.str j) H Q) (Q (.bl (!decide (j.cps.toList < i.cps.toList))) H) := ⟨fun h => w_leS h⟩
theorem w_addS {i j : Str} (hz : i.length + j.length ≤ sizeLine) (h : Q (.str (i ++ j)) H) : rAddS (.str i) (.str j) H Q := ⟨i, j, rfl, rfl, hz, h⟩
theorem w_mulS {z : Str} {i : Int} {n : Nat} (e : i = (n : Int)) (h1 : z.length * n ≤ 100000) (h2 : n ≤ 100000) (h : Q (.str (repS n z)) H) : rMulS (.str z) (.int i) H Q := ⟨z, n, rfl, by rw [e], h1, h2, h⟩
theorem w_sum {ns : List Int} (hs : SqL K H a (ns.map V.int)) (h : Q (.int ns.sum) H) : rSum K [.ref a] H Q := ⟨a, ns, rfl, hs, h⟩
theorem w_all {bs : List Bool} (hs : SqL K H a (bs.map V.bl)) (h : Q (.bl (bs.all id)) H) : rAll K [.ref a] H Q := ⟨a, bs, rfl, hs, h⟩
theorem w_sortedS {ws : List Str} (hs : SqL K H a (ws.map V.str)) (hl : ws.length < 64) (h : ∀ (ys : List Str) (p : Addr), ys.Perm ws → sortedS ys = true → H p = none → Q (.ref p) (upd H p (.lst (ys.map V.str)))) : rSortedS K [.ref a] H Q := ⟨a, ws, rfl, hs, hl, h⟩
theorem w_cat {l b : Addr} {xs zs : List V} (h1 : H l = some (.lst xs)) (h2 : H b = some (.lst zs)) (hz : xs.length + zs.length ≤ sizeLine) (h : ∀ p, H p = none → Q (.ref p) (upd H p (.lst (xs ++ zs)))) : rCat (.ref l) (.ref b) H Q := ⟨l, b, xs, zs, rfl, rfl, h1, h2, hz, h⟩
theorem w_append {l : Addr} (h1 : H l = some (.lst xs)) (hz : xs.length < sizeLine) (h : Q .non (upd H l (.lst (xs ++ [y])))) : rAppend (.ref l) [y] H Q := ⟨l, xs, y, rfl, rfl, h1, hz, h⟩
theorem w_slL {lo hi : Option Int} (hs : SqL K H a xs) (h : ∀ p, H p = none → Q (.ref p) (upd H p (.lst (cutV xs lo hi)))) : rSlL K (.ref a) lo hi H Q := ⟨a, xs, rfl, hs, h⟩
theorem w_slS {z : Str} {lo hi : Option Int} (hz : z.length ≤ sizeLine) (h : Q (.str (cutS z lo hi)) H) : rSlS (.str z) lo hi H Q := ⟨z, rfl, hz, h⟩
theorem w_ixS {z : Str} {i : Int} {c : Nat} (hz : z.length ≤ sizeLine) (ha : atI z.cps.toList i = some c) (h : Q (.str ⟨#[c]⟩) H) : rIxS (.str z) (.int i) H Q := ⟨z, i, c, rfl, rfl, hz, ha, h⟩
theorem w_M1 {r : V → List V → Hp → VK → Prop} {to te : TE} (h : to σ H fun x H1 => (∃ a, x = .str a) ∧ te σ H1 fun y H2 => r x [y] H2 Q) : tM1 r to te σ H Q := h
instance i_w_M1 {r : V → List V → Hp → VK → Prop} {to te : TE} : StepX (tM1 r to te σ H Q) (to σ H fun x H1 => (∃ a, x = .str a) ∧ te σ H1 fun y H2 => r x [y] H2 Q) := ⟨fun h => w_M1 h⟩
theorem w_strx {z : Str} {C : Prop} (h : C) : (∃ a, V.str z = .str a) ∧ C := ⟨⟨z, rfl⟩, h⟩
instance i_w_strx {z : Str} {C : Prop} : StepX ((∃ a, V.str z = .str a) ∧ C) (C) := ⟨fun h => w_strx h⟩
theorem w_tyL {C : Prop} (h1 : H a = some (.lst xs)) (h : C) : tyV K "list" (.ref a) H ∧ C := ⟨.inl ⟨rfl, xs, SqL.of h1⟩, h⟩
theorem w_join {s : Str} {ws : List Str} (hs : SqL K H a (ws.map V.str)) (hz : (ws.map (·.length)).sum + ws.length * s.length ≤ 16777216) (h : Q (.str (Txt.join s ws)) H) : rJoin K (.str s) [.ref a] H Q := ⟨s, a, ws, rfl, rfl, .inl hs, hz, h⟩
theorem w_dget2 {td ty tx : TE} (h : td σ H fun x H1 => ∃ a, x = .ref a ∧ IsD H1 a ∧ ty σ H1 fun y H2 => tx σ H2 fun z H3 => ∃ o, DGet H3 a y o ∧ Q (o.getD z) H3) : tDGet2 td ty tx σ H Q := h
instance i_w_dget2 {td ty tx : TE} : StepX (tDGet2 td ty tx σ H Q) (td σ H fun x H1 => ∃ a, x = .ref a ∧ IsD H1 a ∧ ty σ H1 fun y H2 => tx σ H2 fun z H3 => ∃ o, DGet H3 a y o ∧ Q (o.getD z) H3) := ⟨fun h => w_dget2 h⟩
theorem w_isD {kvs : List (Key × V)} {k : Addr → Prop} (h1 : H a = some (.dK kvs)) (h : k a) : ∃ b, V.ref a = .ref b ∧ IsD H b ∧ k b := ⟨a, rfl, .inl ⟨kvs, .inl h1⟩, h⟩
theorem w_dgetk {kvs : List (Key × V)} {n : Str} {k : Option V → Prop} (h1 : H a = some (.dK kvs)) (h : k (valV kvs (.inr n))) : ∃ o, DGet H a (.str n) o ∧ k o := ⟨_, DGet.k (k := .inr n) h1, h⟩
theorem w_dput {td ty tv : TE} {De : Ends} (h : tv σ H fun v H1 => td σ H1 fun x H2 => ty σ H2 fun y H3 => ∃ a H4, x = .ref a ∧ DPut H3 a y v H4 ∧ De.nx σ H4) : sDPut td ty tv De σ H := h
instance i_w_dput {td ty tv : TE} {De : Ends} : StepX (sDPut td ty tv De σ H) (tv σ H fun v H1 => td σ H1 fun x H2 => ty σ H2 fun y H3 => ∃ a H4, x = .ref a ∧ DPut H3 a y v H4 ∧ De.nx σ H4) := ⟨fun h => w_dput h⟩
theorem w_dputk {kvs : List (Key × V)} {n : Str} {k : Hp → Prop} (h1 : H a = some (.dK kvs)) (hl : kvs.length < sizeLine) (h : k (upd H a (.dK (putK kvs (.inr n) v)))) : ∃ b H4, V.ref a = .ref b ∧ DPut H b (.str n) v H4 ∧ k H4 := ⟨a, _, rfl, DPut.k (k := .inr n) h1 hl, h⟩
end
end TP
namespace TP
open PySem PySem.Spec PyProof.Rows L2
structure Fre (mg : Str → Option Value) : Prop where
  len_ : mg "len" = none
  isinstance_ : mg "isinstance" = none
  range_ : mg "range" = none
  enumerate_ : mg "enumerate" = none
  zip_ : mg "zip" = none
  reversed_ : mg "reversed" = none
  int_ : mg "int" = none
  str_ : mg "str" = none
  bool_ : mg "bool" = none
  tuple_ : mg "tuple" = none
  list_ : mg "list" = none
  dict_ : mg "dict" = none
  bytes_ : mg "bytes" = none
  set_ : mg "set" = none
  sum_ : mg "sum" = none
  all_ : mg "all" = none
  any_ : mg "any" = none
  abs_ : mg "abs" = none
  min_ : mg "min" = none
  max_ : mg "max" = none
  sorted_ : mg "sorted" = none
  repr_ : mg "repr" = none
  divmod_ : mg "divmod" = none
  type_ : mg "type" = none
  map_ : mg "map" = none
  iter_ : mg "iter" = none
  next_ : mg "next" = none
section
variable {σ : L2.St} {H : Hp} {Q : VK} {QO : Option Int → Hp → Prop} {tr tk : TA} {te : TE} {D : Ends} {sp : Sp} {E : XK}
def Par2 (k : V → V → Prop) (vs : List V) : Prop := ∃ v w, vs = [v, w] ∧ k v w
def Par3 (k : V → V → V → Prop) (vs : List V) : Prop := ∃ u v w, vs = [u, v, w] ∧ k u v w
theorem w_p2 {k : V → V → Prop} {a b : V} (h : k a b) : Par2 k [a, b] := ⟨a, b, rfl, h⟩
instance i_w_p2 {k : V → V → Prop} {a b : V} : StepX (Par2 k [a, b]) (k a b) := ⟨fun h => w_p2 h⟩
theorem w_p3 {k : V → V → V → Prop} {a b c : V} (h : k a b c) : Par3 k [a, b, c] := ⟨a, b, c, rfl, h⟩
instance i_w_p3 {k : V → V → V → Prop} {a b c : V} : StepX (Par3 k [a, b, c]) (k a b c) := ⟨fun h => w_p3 h⟩
theorem w_tpar {i j : Nat} (h : tr σ H fun vs H1 => Par2 (fun v w => D.nx ((σ.set i (some v)).set j (some w)) H1) vs) : tPar i j tr D σ H := h
theorem w_tpar3 {i j l : Nat} (h : tr σ H fun vs H1 => Par3 (fun u v w => D.nx (((σ.set i (some u)).set j (some v)).set l (some w)) H1) vs) : tPar3 i j l tr D σ H := h
def IntC (x : V) (k : Int → Prop) : Prop := ∃ i, x = .int i ∧ k i
theorem w_intC {i : Int} {k : Int → Prop} (h : k i) : IntC (.int i) k := ⟨i, rfl, h⟩
instance i_w_intC {i : Int} {k : Int → Prop} : StepX (IntC (.int i) k) (k i) := ⟨fun h => w_intC h⟩
theorem w_tpart (h : te σ H fun x H1 => IntC x fun i => QO (some i) H1) : tPart te σ H QO := h
instance i_w_tpart : StepX (tPart te σ H QO) (te σ H fun x H1 => IntC x fun i => QO (some i) H1) := ⟨fun h => w_tpart h⟩
def KwC (n m : Nat) (g : {α : Type} → List α → List α → List α) (vs zs : List V) (k : List V → Prop) : Prop := vs.length = n ∧ zs.length = m ∧ k (g vs zs)
theorem w_kwC {n m : Nat} {g : {α : Type} → List α → List α → List α} {vs zs : List V} {k : List V → Prop} (h1 : vs.length = n) (h2 : zs.length = m) (h : k (g vs zs)) : KwC n m g vs zs k := ⟨h1, h2, h⟩
end
end TP
namespace TP
open PySem PySem.Spec PyProof.Rows L2
theorem acc_map {α β : Type} {acc : List β} {l : List α} {f : α → β} (hl : acc.length = l.length) (hf : ∀ (i : Nat) (y : β), acc[i]? = some y → ∃ a, l[i]? = some a ∧ y = f a) : acc = l.map f := by
  refine List.ext_getElem? fun i => ?_
  rw [List.getElem?_map]
  cases e : acc[i]? with
  | some y =>
    obtain ⟨a, h1, h2⟩ := hf i y e
    rw [h1, h2]; rfl
  | none =>
    rw [List.getElem?_eq_none (by rw [← hl]; exact List.getElem?_eq_none_iff.mp e)]; rfl
theorem all_map_id {α : Type} (f : α → Bool) (l : List α) : (l.map f).all id = l.all f := by
  rw [List.all_map]; rfl
theorem mono_gpair {K : PySem.W.Frag} {i j : Nat} : ∀ {x : V} {σ : L2.St} {H : Hp} {Q Q' : L2.St → Hp → Prop}, (∀ σ H, Q σ H → Q' σ H) → gTup K 2 (gCons (gName i) (gCons (gName j) gNil)) x σ H Q → gTup K 2 (gCons (gName i) (gCons (gName j) gNil)) x σ H Q' :=
  fun h ⟨a, xs, e, hs, hn, v, r, e1, w, r2, e2, e3, q⟩ => ⟨a, xs, e, hs, hn, v, r, e1, w, r2, e2, e3, h _ _ q⟩
theorem take_succ_snoc {α : Type} : ∀ {l : List α} {i : Nat} {x : α}, l[i]? = some x → l.take (i + 1) = l.take i ++ [x]
  | [], i, x, h => by simp at h
  | a :: l, 0, x, h => by simp at h; subst h; rfl
  | a :: l, i + 1, x, h => by
    have ih := take_succ_snoc (l := l) (i := i) (x := x) (by simpa using h)
    rw [List.take_succ_cons, ih]; rfl
def wholeD : PyData → Bool
  | .int _ => true
  | _ => false
def isIntD : PyData → Bool
  | .int _ => true
  | .bool _ => true
  | _ => false
def isBoolD : PyData → Bool
  | .bool _ => true
  | _ => false
def isStrD : PyData → Bool
  | .str _ => true
  | _ => false
def isTupD : PyData → Bool
  | .tuple _ => true
  | _ => false
theorem isi_int (d : PyData) : kitB (tyD d) "int" = some (isIntD d) := by
  cases d
  · exact (by decide +kernel : kitB "NoneType" "int" = some false)
  · exact (by decide +kernel : kitB "bool" "int" = some true)
  · exact (by decide +kernel : kitB "int" "int" = some true)
  · exact (by decide +kernel : kitB "str" "int" = some false)
  · exact (by decide +kernel : kitB "list" "int" = some false)
  · exact (by decide +kernel : kitB "tuple" "int" = some false)
  · exact (by decide +kernel : kitB "dict" "int" = some false)
theorem isi_bool (d : PyData) : kitB (tyD d) "bool" = some (isBoolD d) := by
  cases d
  · exact (by decide +kernel : kitB "NoneType" "bool" = some false)
  · exact (by decide +kernel : kitB "bool" "bool" = some true)
  · exact (by decide +kernel : kitB "int" "bool" = some false)
  · exact (by decide +kernel : kitB "str" "bool" = some false)
  · exact (by decide +kernel : kitB "list" "bool" = some false)
  · exact (by decide +kernel : kitB "tuple" "bool" = some false)
  · exact (by decide +kernel : kitB "dict" "bool" = some false)
theorem isi_str (d : PyData) : kitB (tyD d) "str" = some (isStrD d) := by
  cases d
  · exact (by decide +kernel : kitB "NoneType" "str" = some false)
  · exact (by decide +kernel : kitB "bool" "str" = some false)
  · exact (by decide +kernel : kitB "int" "str" = some false)
  · exact (by decide +kernel : kitB "str" "str" = some true)
  · exact (by decide +kernel : kitB "list" "str" = some false)
  · exact (by decide +kernel : kitB "tuple" "str" = some false)
  · exact (by decide +kernel : kitB "dict" "str" = some false)
theorem isi_tup (d : PyData) : kitB (tyD d) "tuple" = some (isTupD d) := by
  cases d
  · exact (by decide +kernel : kitB "NoneType" "tuple" = some false)
  · exact (by decide +kernel : kitB "bool" "tuple" = some false)
  · exact (by decide +kernel : kitB "int" "tuple" = some false)
  · exact (by decide +kernel : kitB "str" "tuple" = some false)
  · exact (by decide +kernel : kitB "list" "tuple" = some false)
  · exact (by decide +kernel : kitB "tuple" "tuple" = some true)
  · exact (by decide +kernel : kitB "dict" "tuple" = some false)
theorem szDs_get : ∀ {ds : List PyData} {i : Nat} {d : PyData}, szDs ds = true → ds[i]? = some d → szD d = true
  | [], i, d, _, e => by simp at e
  | a :: r, 0, d, h, e => by
    simp at e; subst e
    exact (Bool.and_eq_true_iff.mp (show (szD a && szDs r) = true from h)).1
  | a :: r, i + 1, d, h, e => szDs_get (i := i) (Bool.and_eq_true_iff.mp (show (szD a && szDs r) = true from h)).2 (by simpa using e)
def letters : Str := "abcdefghijklmnopqrstuvwxyz"
def isLet (c : Nat) : Bool := decide (97 ≤ c) && decide (c ≤ 122)
theorem mem_letters (c : Nat) : decide (c ∈ letters.cps.toList) = isLet c := by
  have e : letters.cps.toList = [97, 98, 99, 100, 101, 102, 103, 104, 105, 106, 107, 108, 109, 110, 111, 112, 113, 114, 115, 116, 117, 118, 119, 120, 121, 122] := by decide +kernel
  rw [e]
  unfold isLet
  by_cases h : 97 ≤ c ∧ c ≤ 122
  · rw [decide_eq_true h.1, decide_eq_true h.2]
    refine decide_eq_true ?_
    simp only [List.mem_cons, List.not_mem_nil, or_false]
    omega
  · have : (decide (97 ≤ c) && decide (c ≤ 122)) = false := by
      rw [Bool.and_eq_false_iff, decide_eq_false_iff_not, decide_eq_false_iff_not]; omega
    rw [this]
    refine decide_eq_false ?_
    simp only [List.mem_cons, List.not_mem_nil, or_false]
    omega
def isName (x : Str) : Bool := decide (0 < x.length) && (decide (x.length < 9) && x.cps.toList.all isLet)
def nameD : PyData → Bool
  | .str x => isName x
  | _ => false
def fromD (d : PyData) (j : Int) : Bool := match d with
  | .int i => decide (j ≤ i)
  | _ => false
def runD : PyData → Bool
  | .tuple [a, b] => nameD a && fromD b 1
  | _ => false
def nmD : PyData → Str
  | .tuple (.str x :: _) => x
  | _ => Str.empty
def badAt (ds : List PyData) (m : Int) (i : Nat) : Bool := decide (m ≤ (i : Int)) || (!runD (ds.getD i .none) || (decide (0 < i) && !decide (ltS (nmD (ds.getD (i - 1) .none)) (nmD (ds.getD i .none)))))
def firstBad (ds : List PyData) (m : Int) : Option Nat := (List.range ds.length).find? (badAt ds m)
theorem firstBad_some {ds : List PyData} {m : Int} {i : Nat} (hi : i < ds.length) (hb : badAt ds m i = true) (hp : ∀ j, j < i → badAt ds m j = false) : firstBad ds m = some i := by
  unfold firstBad
  rw [List.find?_range_eq_some]
  exact ⟨hb, List.mem_range.mpr hi, fun j hj => by rw [hp j hj]; rfl⟩
theorem firstBad_none {ds : List PyData} {m : Int} (hp : ∀ j, j < ds.length → badAt ds m j = false) : firstBad ds m = none := by
  unfold firstBad
  rw [List.find?_eq_none]
  intro j hj
  rw [hp j (List.mem_range.mp hj)]
  exact Bool.false_ne_true
def optV : Option Nat → V
  | none => .non
  | some i => .int (i : Nat)
def pairD (p : Str × Int) : PyData := .tuple [.str p.1, .int p.2]
def bagD (ps : Bag) : PyData := .tuple (ps.map pairD)
def sumC (ps : Bag) : Int := (ps.map (·.2)).sum
structure BagOk (ps : Bag) : Prop where
  asc : ps.Pairwise fun a b => ltS a.1 b.1
  nam : ∀ p ∈ ps, isName p.1 = true
  pos : ∀ p ∈ ps, 1 ≤ p.2
theorem pairD_run {p : Str × Int} (h1 : isName p.1 = true) (h2 : 1 ≤ p.2) : runD (pairD p) = true := by
  show (isName p.1 && decide (1 ≤ p.2)) = true
  rw [h1, decide_eq_true h2]; rfl
theorem bag_good {ps : Bag} (h : BagOk ps) {m : Int} (hm : (ps.length : Int) ≤ m) : firstBad (ps.map pairD) m = none := by
  refine firstBad_none fun i hi => ?_
  rw [List.length_map] at hi
  have e : (ps.map pairD).getD i .none = pairD ps[i] := by simp [List.getD, hi]
  unfold badAt
  rw [e, decide_eq_false (by omega), pairD_run (h.nam _ (List.getElem_mem hi)) (h.pos _ (List.getElem_mem hi))]
  by_cases h0 : 0 < i
  · have e2 : (ps.map pairD).getD (i - 1) .none = pairD (ps[i - 1]'(by omega)) := by simp [List.getD, show i - 1 < ps.length by omega]
    rw [e2, decide_eq_true h0]
    have q := List.pairwise_iff_getElem.mp h.asc (i - 1) i (by omega) hi (by omega)
    have q2 : ltS (nmD (pairD (ps[i - 1]'(by omega)))) (nmD (pairD ps[i])) := q
    rw [decide_eq_true q2]; rfl
  · rw [decide_eq_false h0]; rfl
theorem szD_bag {ps : Bag} (h : ∀ p ∈ ps, p.1.length ≤ 100000) : szDs (ps.map pairD) = true := by
  induction ps with
  | nil => rfl
  | cons p r ih =>
    have h1 := h p List.mem_cons_self
    show (szD (pairD p) && szDs (r.map pairD)) = true
    rw [ih fun q hq => h q (List.mem_cons_of_mem _ hq)]
    simp [szD, szDs, pairD, h1]
theorem isName_len {x : Str} (h : isName x = true) : 0 < x.length ∧ x.length < 9 := by
  unfold isName at h
  have h1 := Bool.and_eq_true_iff.mp h
  have h2 := Bool.and_eq_true_iff.mp h1.2
  exact ⟨of_decide_eq_true h1.1, of_decide_eq_true h2.1⟩
theorem BagOk.sz {ps : Bag} (h : BagOk ps) : szDs (ps.map pairD) = true := szD_bag fun p hp => by have := (isName_len (h.nam p hp)).2; omega
section
variable {K : PySem.W.Frag} {H : Hp}
theorem pair_inv {v : V} {p : Str × Int} (h : Dp K H v (pairD p)) : ∃ a, v = .ref a ∧ SqT K H a [.str p.1, .int p.2] := by
  obtain ⟨a, xs, rfl, hs, hd⟩ := dp_tup_inv h
  refine ⟨a, rfl, ?_⟩
  cases hd with
  | cons h1 r =>
    cases r with
    | cons h2 r2 =>
      cases r2
      rw [dp_str_inv h1, dp_int_inv h2] at hs
      exact hs
theorem pair_mk {a : Addr} {n : Str} {c : Int} (h : SqT K H a [.str n, .int c]) : Dp K H (.ref a) (pairD (n, c)) := .tup h (.cons (.str n) (.cons (.int c) .nil))
theorem bag_inv {v : V} {ps : Bag} (h : Dp K H v (bagD ps)) : ∃ a xs, v = .ref a ∧ SqT K H a xs ∧ DpAll K H xs (ps.map pairD) ∧ xs.length = ps.length := by
  obtain ⟨a, xs, rfl, hs, hd⟩ := dp_tup_inv h
  exact ⟨a, xs, rfl, hs, hd, by rw [dps_len hd, List.length_map]⟩
theorem bag_get {xs : List V} {ps : Bag} {i : Nat} {x : V} (hd : DpAll K H xs (ps.map pairD)) (e : xs[i]? = some x) : ∃ p b, ps[i]? = some p ∧ x = .ref b ∧ SqT K H b [.str p.1, .int p.2] := by
  obtain ⟨d, h1, h2⟩ := dps_get hd e
  rw [List.getElem?_map] at h1
  cases q : ps[i]? with
  | none => rw [q] at h1; cases h1
  | some p =>
    rw [q] at h1
    have e2 : pairD p = d := Option.some.inj h1
    subst e2
    obtain ⟨b, e3, h3⟩ := pair_inv h2
    exact ⟨p, b, rfl, e3, h3⟩
end
theorem flat_bag (ps : Bag) : flatD (bagD ps) = true := by
  unfold bagD flatD
  induction ps with
  | nil => rfl
  | cons p r ih => show (flatD (pairD p) && flatDs (r.map pairD)) = true; rw [ih]; rfl
def addT (t : Bag) (p : Str × Int) : Bag := putT t p.1 (getT t p.1 + p.2)
def tabOf (ps : Bag) : Bag := ps.foldl addT []
def kvOf (t : Bag) : List (Key × V) := t.map fun p => (Sum.inr p.1, V.int p.2)
theorem kv_find (t : Bag) (n : Str) : valV (kvOf t) (Sum.inr n) = ((t.find? fun p => decide (p.1 = n)).map fun p => V.int p.2) := by
  unfold valV kvOf
  induction t with
  | nil => rfl
  | cons p r ih =>
    rw [List.map_cons, List.find?_cons, List.find?_cons]
    have e : decide ((Sum.inr p.1 : Key) = Sum.inr n) = decide (p.1 = n) := key_rr p.1 n
    dsimp only
    rw [e]
    cases decide (p.1 = n)
    · exact ih
    · rfl
theorem kv_get (t : Bag) (n : Str) : (valV (kvOf t) (Sum.inr n)).getD (.int 0) = .int (getT t n) := by
  rw [kv_find]
  unfold getT
  cases t.find? fun p => decide (p.1 = n) <;> rfl
theorem kv_put (t : Bag) (n : Str) (c : Int) : putK (kvOf t) (Sum.inr n) (.int c) = kvOf (putT t n c) := by
  have e1 : ((kvOf t).any fun kv => decide (kv.1 = Sum.inr n)) = t.any fun p => decide (p.1 = n) := by
    unfold kvOf
    rw [List.any_map]
    congr 1
    funext p
    exact key_rr p.1 n
  unfold putK putT
  rw [e1]
  split
  · unfold kvOf
    rw [List.map_map, List.map_map]
    congr 1
    funext p
    by_cases h : p.1 = n
    · simp [h]
    · simp [h, show ¬ ((Sum.inr p.1 : Key) = Sum.inr n) from fun q => h (Sum.inr.inj q)]
  · unfold kvOf
    rw [List.map_append]
    rfl
theorem kv_len (t : Bag) : (kvOf t).length = t.length := by unfold kvOf; rw [List.length_map]
theorem putT_len (t : Bag) (n : Str) (c : Int) : (putT t n c).length ≤ t.length + 1 := by
  unfold putT
  split
  · rw [List.length_map]; omega
  · simp
theorem foldl_addT_len : ∀ (ps t : Bag), (ps.foldl addT t).length ≤ t.length + ps.length
  | [], t => by simp
  | p :: r, t => by
    have h1 := foldl_addT_len r (addT t p)
    have h2 := putT_len t p.1 (getT t p.1 + p.2)
    simp only [List.foldl_cons, List.length_cons]
    unfold addT at h1 ⊢
    omega
theorem tabOf_len (ps : Bag) : (tabOf ps).length ≤ ps.length := by have := foldl_addT_len ps []; simpa [tabOf] using this
theorem tabOf_snoc (ps : Bag) (p : Str × Int) : tabOf (ps ++ [p]) = addT (tabOf ps) p := by unfold tabOf; rw [List.foldl_append]; rfl
def cntC (ps : Bag) (n : Str) : Int := ((ps.filter fun p => decide (p.1 = n)).map (·.2)).sum
theorem getT_put (t : Bag) (n m : Str) (c : Int) : getT (putT t n c) m = if m = n then c else getT t m := by
  have h := kv_get (putT t n c) m
  rw [← kv_put, valV_put] at h
  have h2 := kv_get t m
  by_cases e : m = n
  · subst e
    rw [if_pos rfl] at h ⊢
    exact (V.int.inj h).symm
  · rw [if_neg (fun q => e (Sum.inr.inj q))] at h
    rw [if_neg e]
    rw [h2] at h
    exact (V.int.inj h).symm
theorem getT_foldl : ∀ (ps t : Bag) (n : Str), getT (ps.foldl addT t) n = getT t n + cntC ps n
  | [], t, n => by simp [cntC]
  | p :: r, t, n => by
    rw [List.foldl_cons, getT_foldl r (addT t p) n]
    unfold addT
    rw [getT_put]
    unfold cntC
    rw [List.filter_cons]
    by_cases e : n = p.1
    · subst e
      rw [if_pos rfl, if_pos (decide_eq_true rfl), List.map_cons, List.sum_cons]
      omega
    · rw [if_neg e, if_neg (by simpa using fun q : p.1 = n => e q.symm)]
theorem getT_tabOf (ps : Bag) (n : Str) : getT (tabOf ps) n = cntC ps n := by
  unfold tabOf
  rw [getT_foldl]
  have : getT [] n = 0 := rfl
  omega
end TP
namespace TP
open PySem PySem.Spec PyProof.Rows L2
theorem str_ext {x y : Str} (h : x.cps.toList = y.cps.toList) : x = y := by
  cases x; cases y
  congr 1
  exact Array.ext' h
theorem app_list (x y : Str) : (x ++ y).cps.toList = x.cps.toList ++ y.cps.toList := by
  show (x.cps ++ y.cps).toList = _
  simp
theorem len_list (x : Str) : x.length = x.cps.toList.length := by show x.cps.size = _; simp
theorem join0_list : ∀ ys : List Str, (Str.join (Str.ofString "") ys).cps.toList = (ys.map fun y => y.cps.toList).flatten
  | [] => rfl
  | [x] => by simp [Str.join]
  | x :: y :: r => by
    have ih := join0_list (y :: r)
    show (x ++ Str.ofString "" ++ Str.join (Str.ofString "") (y :: r)).cps.toList = _
    rw [app_list, app_list, ih]
    have e : (Str.ofString "").cps.toList = [] := by decide +kernel
    rw [e]
    simp
theorem txt_join_eq (s : Str) (ys : List Str) : Txt.join s ys = Str.join s ys := TL.join_eq s ys
def lets (x : Str) : Prop := ∀ c ∈ x.cps.toList, isLet c = true
theorem isName_of {x : Str} (h0 : 0 < x.length) (h1 : x.length < 9) (h2 : lets x) : isName x = true := by
  unfold isName
  rw [decide_eq_true h0, decide_eq_true h1, List.all_eq_true.mpr h2]; rfl
def menuW : List Str := ["more", "less", "sum", "few", "many", "gain", "columns", "range", "order", "merge", "a", "b", "c", "x", "y"]
def wordA (b i : Nat) : Str := menuW.getD ((b + 4 * i) % 15) Str.empty
def wordB (b i : Nat) : Str := repS (1 + i % 8) ⟨#[97 + (b + 7 * i) % 26]⟩
def wordC (b : Nat) (l r : List Nat) (i : Nat) : Str := ⟨(l ++ (97 + (b + 5 * i) % 26) :: r).toArray⟩
theorem wordA_all : ∀ b, b < 15 → ((List.range 15).map (wordA b)).Nodup ∧ ∀ w ∈ (List.range 15).map (wordA b), isName w = true := by decide +kernel
theorem wordB_all : ∀ b, b < 15 → ((List.range 15).map (wordB b)).Nodup ∧ ∀ w ∈ (List.range 15).map (wordB b), isName w = true := by decide +kernel
theorem range_prefix {α : Type} {f : Nat → α} {n m : Nat} (h : n ≤ m) : (List.range n).map f = ((List.range m).map f).take n := by
  rw [← List.map_take, List.take_range, Nat.min_eq_left h]
theorem words_of {f : Nat → Str} {n : Nat} (hn : n ≤ 15) (h : ((List.range 15).map f).Nodup ∧ ∀ w ∈ (List.range 15).map f, isName w = true) : ((List.range n).map f).Nodup ∧ ∀ w ∈ (List.range n).map f, isName w = true := by
  rw [range_prefix hn]
  exact ⟨h.1.sublist (List.take_sublist _ _), fun w hw => h.2 w (List.mem_of_mem_take hw)⟩
theorem wordC_all {b : Nat} {l r : List Nat} (hb : b < 15) (hl : ∀ c ∈ l, isLet c = true) (hr : ∀ c ∈ r, isLet c = true) (hn : l.length + r.length ≤ 7) : ((List.range 15).map (wordC b l r)).Nodup ∧ ∀ w ∈ (List.range 15).map (wordC b l r), isName w = true := by
  constructor
  · unfold List.Nodup
    rw [List.pairwise_map]
    refine List.Pairwise.imp_of_mem ?_ List.nodup_range
    intro i j hi hj hne e
    apply hne
    have hi' := List.mem_range.mp hi
    have hj' := List.mem_range.mp hj
    have e2 : (l ++ (97 + (b + 5 * i) % 26) :: r) = (l ++ (97 + (b + 5 * j) % 26) :: r) := by
      have := congrArg (fun z : Str => z.cps.toList) e
      simpa [wordC] using this
    have e3 := List.append_cancel_left e2
    injection e3 with e4 _
    omega
  · intro w hw
    obtain ⟨i, _, rfl⟩ := List.mem_map.mp hw
    have e : (wordC b l r i).cps.toList = l ++ (97 + (b + 5 * i) % 26) :: r := by simp [wordC]
    refine isName_of ?_ ?_ fun c hc => ?_
    · rw [len_list, e]; simp; omega
    · rw [len_list, e]; simp; omega
    · rw [e] at hc
      rcases List.mem_append.mp hc with h | h
      · exact hl c h
      · rcases List.mem_cons.mp h with h | h
        · subst h
          unfold isLet
          rw [decide_eq_true (by omega), decide_eq_true (by omega)]; rfl
        · exact hr c h
structure WordsOk (ws : List Str) (n : Nat) : Prop where
  len : ws.length = n
  nd : ws.Nodup
  nam : ∀ w ∈ ws, isName w = true
theorem words_mk {f : Nat → Str} {n : Nat} (hn : n ≤ 15) (h : ((List.range 15).map f).Nodup ∧ ∀ w ∈ (List.range 15).map f, isName w = true) : WordsOk ((List.range n).map f) n :=
  ⟨by simp, (words_of hn h).1, (words_of hn h).2⟩
theorem at_of' {α : Type} {xs : List α} {z : Int} {j : Nat} {v : α} (e : z = (j : Int)) (h : xs[j]? = some v) : atI xs z = some v := by rw [e]; exact atI_nat h
theorem letters_at {i : Int} (h0 : 0 ≤ i) (h1 : i < 26) : atI letters.cps.toList i = some (97 + i.toNat) := by
  have all : ∀ j : Nat, j < 26 → letters.cps.toList[j]? = some (97 + j) := by decide +kernel
  exact at_of' (j := i.toNat) (by omega) (all i.toNat (by omega))
theorem tri : ∀ a b : List Nat, a < b ∨ a = b ∨ b < a
  | [], [] => .inr (.inl rfl)
  | [], _ :: _ => .inl (List.nil_lt_cons _ _)
  | _ :: _, [] => .inr (.inr (List.nil_lt_cons _ _))
  | a :: r, b :: t => by
    rcases Nat.lt_trichotomy a b with h | h | h
    · exact .inl (List.cons_lt_cons_iff.mpr (.inl h))
    · subst h
      rcases tri r t with h | h | h
      · exact .inl (List.cons_lt_cons_iff.mpr (.inr ⟨rfl, h⟩))
      · exact .inr (.inl (by rw [h]))
      · exact .inr (.inr (List.cons_lt_cons_iff.mpr (.inr ⟨rfl, h⟩)))
    · exact .inr (.inr (List.cons_lt_cons_iff.mpr (.inl h)))
theorem ltS_trans {a b c : Str} (h : ltS a b) (h2 : ltS b c) : ltS a c := List.lt_trans h h2
theorem ltS_irrefl (a : Str) : ¬ ltS a a := List.lt_irrefl _
theorem ltS_tri (a b : Str) : ltS a b ∨ a = b ∨ ltS b a := by
  rcases tri a.cps.toList b.cps.toList with h | h | h
  · exact .inl h
  · exact .inr (.inl (str_ext h))
  · exact .inr (.inr h)
theorem ltS_ne {a b : Str} (h : ltS a b) : a ≠ b := fun e => by subst e; exact ltS_irrefl _ h
theorem rising_asc : ∀ (l : List Str) (p : Str), risingS p l = true → (p :: l).Nodup → (p :: l).Pairwise ltS
  | [], p, _, _ => List.pairwise_singleton _ _
  | x :: r, p, h, nd => by
    have h' := Bool.and_eq_true_iff.mp (show (!ltCps x.cps.toList p.cps.toList && risingS x r) = true from h)
    have nd' := List.nodup_cons.mp nd
    have ih := rising_asc r x h'.2 nd'.2
    have nlt : ¬ ltS x p := fun q => by
      have e : ltCps x.cps.toList p.cps.toList = true := by rw [ltCps_eq]; exact decide_eq_true q
      rw [e] at h'
      exact Bool.false_ne_true h'.1
    have px : ltS p x := by
      rcases ltS_tri p x with q | q | q
      · exact q
      · exact absurd (by rw [q]; exact List.mem_cons_self) nd'.1
      · exact absurd q nlt
    rw [List.pairwise_cons]
    refine ⟨fun z hz => ?_, ih⟩
    rcases List.mem_cons.mp hz with e | hz
    · rw [e]; exact px
    · exact ltS_trans px ((List.pairwise_cons.mp ih).1 z hz)
theorem sorted_asc : ∀ {ys : List Str}, sortedS ys = true → ys.Nodup → ys.Pairwise ltS
  | [], _, _ => .nil
  | x :: r, h, nd => rising_asc r x h nd
theorem asc_take {ys : List Str} (asc : ys.Pairwise ltS) {i : Nat} (hi : i < ys.length) {z : Str} (hz : z ∈ ys.take i) : ltS z ys[i] := by
  obtain ⟨j, hj, e⟩ := List.mem_iff_getElem.mp hz
  rw [List.getElem_take] at e
  rw [List.length_take] at hj
  subst e
  exact List.pairwise_iff_getElem.mp asc j i (by omega) hi (by omega)
end TP
namespace TP
open PySem PySem.Spec PyProof.Rows L2
section
variable {X : Cx} (K : PySem.W.Frag)
theorem k_ixL (h : X.K = K := by rfl) : IxR X (rIxL K) := by subst h; exact ix_list
theorem k_ixT (h : X.K = K := by rfl) : IxR X (rIxT K) := by subst h; exact ix_tup
theorem k_slL (h : X.K = K := by rfl) : SlR X (rSlL K) := by subst h; exact sl_list
theorem k_slT (h : X.K = K := by rfl) : SlR X (rSlA K) := by subst h; exact sl_tupA
theorem k_catT (h : X.K = K := by rfl) : OpR X (binaryOp .Add) (rCatA K) := by subst h; exact op_catA
theorem k_len (h : X.K = K := by rfl) : CallR X (.builtin "len") (rLenV K) := by subst h; exact c_len
theorem k_list (h : X.K = K := by rfl) : CallR X (.type "list") (rListS K) := by subst h; exact c_list
theorem k_tuple (h : X.K = K := by rfl) : CallR X (.type "tuple") (rTupS K) := by subst h; exact c_tuple
theorem k_sum (hc : X.calm = true) (h : X.K = K := by rfl) : CallR X (.builtin "sum") (rSum K) := by subst h; exact cr_sum hc
theorem k_all (hc : X.calm = true) (h : X.K = K := by rfl) : CallR X (.builtin "all") (rAll K) := by subst h; exact cr_all hc
theorem k_sortedS (h : X.K = K := by rfl) : CallR X (.builtin "sorted") (rSortedS K) := by subst h; exact cr_sortedS
theorem k_isi (h : X.K = K := by rfl) : CallR X (.builtin "isinstance") (rIsi K) := by subst h; exact call_isi
variable {o e a b : Expr} {to te ta tb : TE} {apos cpos pos p tpos : Pos} {es : List Expr} {t : TA} {tg : Expr} {rest : List Expr}
theorem k_join (ho : PE X o to) (he : PE X e te) (h : X.K = K := by rfl) (hs : starEach [e] X.env = [(false, eval e X.env)] := by rfl) (hbase : attributeBase o "join" X.env (eval o X.env) = eval o X.env := by rfl) (hline : (apos.endLine == pos.line) = true := by rfl) :
    PE X (.Call (.Attribute o "join" apos) [e] [] pos) (tM1 (rJoin K) to te) := by subst h; exact pe_join ho he hs hbase hline
theorem k_bm {T id : String} {name : Str} {r : V → List V → Hp → VK → Prop} (pa : PlainAttrs T) (slot : Slot T name id) (hty : typeOf (.builtin id) = pure (.type "method_descriptor")) (hm : MtR X id r) (ho : PE X o to) (ha : PA X (e :: es) t) (h : X.K = K := by rfl)
    (hbase : attributeBase o name X.env (eval o X.env) = eval o X.env := by rfl)
    (hfew : ((backTo cpos (starEach (e :: es) X.env)).all (fun x => !x.1) && (backToKw cpos (keywordEach [] X.env)).all (fun x => x.1.isSome) && decide ((e :: es).length + ([] : List Keyword).length + (if ([] : List Keyword).isEmpty then 0 else 1) < 30)) = true := by rfl)
    (hline : (apos.endLine == cpos.line) = true := by rfl) (hs : starEach (e :: es) X.env = (false, eval e X.env) :: starEach es X.env := by rfl) (hplain : (backTo cpos (starEach es X.env)).any (·.1) = false := by rfl) :
    PE X (.Call (.Attribute o name apos) (e :: es) [] cpos) (tBM K T r to t) := by subst h; exact pe_bm pa slot hty hm ho ha hbase hfew hline hs hplain
theorem k_gtup {k n : Nat} {t : TGs} (hc : X.calm = true) (hg : PGs X es t) (h : X.K = K := by rfl) (hn : (assignEach es X.env).length = n := by rfl) (hst : (assignEach es X.env).findIdx? (·.1) = none := by rfl) : PG X (.Tuple es k pos) (gTup K n t) := by subst h; exact pg_tup hc hg hn hst
theorem k_iList (hl : PE X e te) (h : X.K = K := by rfl) : PI X tg e (iList K te) := by subst h; exact pi_list hl
theorem k_iTup (hl : PE X e te) (h : X.K = K := by rfl) : PI X tg e (iTup K te) := by subst h; exact pi_tup hl
theorem k_iEnumT {elts : List Expr} {kk : Nat} (hg : Gl X "enumerate") (hm : X.mg "enumerate" = none) (ha : PA X [e] t) (h : X.K = K := by rfl) (hs : starEach [e] X.env = [(false, eval e X.env)] := by rfl) :
    PI X (.Tuple elts kk tpos) (.Call (.Name "enumerate" p) [e] [] pos) (iEnumT K t) := by subst h; exact pi_enumT hg hm ha hs
end
section
variable {J : It} {n : Nat} {G : Hp → Prop} {Y : Nat → Hp → V → Hp → Prop} {g : TG} {te : TE} {vs : List Nat} {σ : L2.St} {H1 : Hp} {D : Addr} {Q : VK} {K : PySem.W.Frag}
theorem flatDs_snoc : ∀ {ds : List PyData} {d : PyData}, flatDs ds = true → flatD d = true → flatDs (ds ++ [d]) = true
  | [], d, _, h => by show (flatD d && true) = true; rw [h]; rfl
  | a :: r, d, h, h2 => by
    have h' := Bool.and_eq_true_iff.mp (show (flatD a && flatDs r) = true from h)
    show (flatD a && flatDs (r ++ [d])) = true
    rw [h'.1, flatDs_snoc h'.2 h2]; rfl
theorem lc_dat (K : PySem.W.Frag) (w : Walk J n G Y) (hn : n ≤ 100000) (R : Nat → PyData → Prop) (hD : H1 D = none) (hG : ∀ H, Same H1 H → G H)
    (hs : ∀ i x H H', i < n → Same H1 H → Y i H x H' → ∀ Qy : VK, (∀ y d H4, Same H H4 → Dp K H4 y d → flatD d = true → R i d → Qy y H4) → g x (wipe σ vs) H' fun σ2 H2 => wipe σ2 vs = wipe σ vs ∧ te σ2 H2 Qy)
    (hd : ∀ acc ds H, Same H1 H → H1 D = none → H D = some (.lst acc) → DpAll K H acc ds → flatDs ds = true → ds.length = n → (∀ i d, ds[i]? = some d → R i d) → Q (.ref D) H)
    (mono : ∀ {x σ H} {Q Q' : L2.St → Hp → Prop}, (∀ σ H, Q σ H → Q' σ H) → g x σ H Q → g x σ H Q') : LcOk J g tYes te vs σ H1 D Q := by
  let Acc : Nat → List V → Hp → Prop := fun i acc H => ∃ ds, DpAll K H acc ds ∧ flatDs ds = true ∧ ds.length = i ∧ ∀ (j : Nat) (d : PyData), ds[j]? = some d → R j d
  refine lc_go w Acc hD hG ⟨[], .nil, rfl, rfl, fun j d e => by simp at e⟩ (fun i x H H' acc hi s e l a hy => ?_) fun acc H s e _ ⟨ds, h1, h2, h3, h4⟩ => hd acc ds H s hD e h1 h2 h3 h4
  obtain ⟨ds, h1, h2, h3, h4⟩ := a
  refine mono (fun σ2 H2 q => ⟨q.1, w_yes (w_iteT q.2)⟩) (hs i x H H' hi s hy (fun y H4 => LcY H1 D Acc i y H4) fun y d H4 s4 dy fl ry => ?_)
  have e4 := s4 _ _ e
  refine lc_y (Acc := Acc) hD (s.trans s4) e4 l (by omega) ⟨ds ++ [d], ?_, flatDs_snoc h2 fl, by simp [h3], fun j z ej => ?_⟩
  · have st : SameT H4 (upd H4 D (.lst (acc ++ [y]))) := SameT.lst e4
    exact dps_snoc (dps_flat st (dps_same s4 h1) h2) (dp_flat st dy fl)
  · by_cases q : j < ds.length
    · rw [List.getElem?_append_left q] at ej; exact h4 j z ej
    · rw [List.getElem?_append_right (Nat.le_of_not_lt q)] at ej
      have q2 : j = ds.length := by
        obtain ⟨h1, _⟩ := List.getElem?_eq_some_iff.mp ej
        simp at h1; omega
      subst q2
      simp at ej
      subst ej
      rw [h3]; exact ry
end
theorem log2_le (i : Int) (h0 : 0 ≤ i) (h1 : i ≤ 10 ^ 100) : i.natAbs.log2 < 1920 := by
  refine Nat.lt_of_lt_of_le (PySem.Flt.log2_lt_of (by decide : 0 < 400) ?_) (by decide)
  have h2 : i.natAbs ≤ 10 ^ 100 := by omega
  exact Nat.lt_of_le_of_lt h2 (by decide)
def BagS (ps : Bag) : Prop := ∀ p ∈ ps, isName p.1 = true ∧ 0 ≤ p.2 ∧ p.2 ≤ 10 ^ 100
theorem BagOk.s {ps : Bag} (h : BagOk ps) (hc : ∀ p ∈ ps, p.2 ≤ 10 ^ 100) : BagS ps := fun p hp => ⟨h.nam p hp, by have := h.pos p hp; omega, hc p hp⟩
theorem ds_eq {ds : List PyData} {α : Type} {l : List α} {f : α → PyData} (hl : ds.length = l.length) (h : ∀ (i : Nat) (d : PyData), ds[i]? = some d → ∃ a, l[i]? = some a ∧ d = f a) : ds = l.map f := acc_map hl h
def signs1 (x : Str) : List Str := x.cps.toList.map fun c => ⟨#[c]⟩
theorem Has.fixed {P : Program} {w : World} {K : PySem.W.Frag} {mg : Str → Option Value} {base : Heap} {CX : CXT} {k : Nat} {x : Str} {st : Stmt} {ps : List Str} {sp : Sp} (h : Has P w K mg base CX k x st ps sp) {fd : FuncData}
    (F0 : FunD K x x (defArgs st) (defBody st) (defScope st) [] [] (He.ga K x) fd) : FnG P w K mg base CX k (He.ga K x) fd ps sp := by
  obtain ⟨fd', F1, G⟩ := h.ex
  have e : fd' = fd := by
    obtain ⟨oc, od, dV, kV, doc, pm, an, cdv, ct, osl, e1, l1, _⟩ := F1.ex
    obtain ⟨oc2, od2, dV2, kV2, doc2, pm2, an2, cdv2, ct2, osl2, e2, l2, _⟩ := F0.ex
    rw [l1] at l2
    injection l2 with l3
    injection l3 with _ _ l4 _
    injection l4
  rw [← e]; exact G
end TP
namespace TP
open PySem PySem.Spec PyProof.Rows L2
def stepLo (c : Int) (n : Nat) : Int := if c < 0 then (n : Int) - 1 else 0
def stepHi (c : Int) (n : Nat) : Int := if c < 0 then -1 else (n : Int)
def stepIx (c : Int) (n : Nat) : List Nat := (List.range (Builtin.Slice.slicePlaces (stepLo c n) (stepHi c n) c)).map fun (k : Nat) => (stepLo c n + (k : Int) * c).toNat
def stepL {α : Type} (c : Int) (xs : List α) : List α := (stepIx c xs.length).filterMap fun k => xs[k]?
theorem vals_pick {xs : List V} {us : List Value} (r : Vals xs us) : ∀ js : List Nat, Vals (js.filterMap fun k => xs[k]?) (js.filterMap fun k => us[k]?)
  | [] => .nil
  | j :: js => by
    rw [List.filterMap_cons, List.filterMap_cons]
    cases e : xs[j]? with
    | none =>
      rw [r.none_of e]
      exact vals_pick r js
    | some x =>
      obtain ⟨u, e2, ru⟩ := r.get e
      rw [e2]
      exact .cons ru (vals_pick r js)
section
variable {prog : Program} {w : World} {A : Around} {E : Value → Shared → Prop} {s : Shared}
theorem sliceApplied_step {sl : Addr} {vs : Value} {c : Int} {n : Nat} {Q : Int × Int × Nat → Shared → Prop} (hs : s.heap.IsSliceOf sl .none .none vs) (ps : IsPart vs (some c)) (hc : (c == 0) = false)
    (h : Q (stepLo c n, c, Builtin.Slice.slicePlaces (stepLo c n) (stepHi c n) c) s) : wpAny (model prog w) A (Builtin.Slice.sliceApplied (.ref sl) (pure (n : Int))) Q E s := by
  obtain ⟨os, hos, hcs, hds⟩ := id hs
  unfold Builtin.Slice.sliceApplied Builtin.Slice.sliceFields
  refine wpAny_bind (wpAny_bind (wpAny_field hos hds (x := .none) rfl (wpAny_bind (wpAny_field hos hds (x := .none) rfl (wpAny_bind (wpAny_field hos hds (x := vs) rfl (wpAny_pure ?_)))))))
  refine wpAny_bind (HT.slicePart_ ps ?_)
  show wpAny _ _ (if (c == 0) = true then _ else _) _ _ s
  rw [hc, if_neg Bool.false_ne_true]
  refine wpAny_bind (slicePart_none (wpAny_bind (slicePart_none (wpAny_bind (wpAny_pure ?_)))))
  have ea : Builtin.Slice.sliceAdjust none none c (n : Int) = (stepLo c n, stepHi c n) := by
    unfold Builtin.Slice.sliceAdjust stepLo stepHi
    by_cases h : c < 0
    · simp [h]
    · simp [h]
  show wpAny _ _ (match Builtin.Slice.sliceAdjust none none c (n : Int) with | (lo, hi) => pure (lo, c, Builtin.Slice.slicePlaces lo hi c)) _ _ s
  rw [ea]
  exact wpAny_pure h
theorem getItem_tuple_step {t sl : Addr} {its : List Value} {vs : Value} {c : Int} {Q : Value → Shared → Prop} (ht : IsTup s.heap t its.toArray) (hs : s.heap.IsSliceOf sl .none .none vs) (ps : IsPart vs (some c)) (hc : (c == 0) = false) (hc1 : (c == 1) = false)
    (h : Q (.ref s.heap.objs.size) { s with heap := s.heap.push { cls := .type "tuple", data := .seq (stepL c its).toArray } }) (hsz : (stepL c its).length ≤ sizeLine) : wpAny (model prog w) A (getItem (.ref t) (.ref sl)) Q E s := by
  have htake : sizeOk (.seq (stepL c its).toArray) := by
    show (stepL c its).toArray.size ≤ sizeLine
    rw [List.size_toArray]; exact hsz
  obtain ⟨os, hos, hcs, hds⟩ := id hs
  have hTs : s.TypeIs (.ref sl) "slice" := ⟨os, hos, hcs⟩
  have esz : its.toArray.size = its.length := by simp
  unfold getItem
  try with_reducible refine wpAny_holding ?_
  first | refine wpAny_bind (wpAny_pure ?_) | skip
  refine wpAny_bind (wpAny_sequenceKey ht.typeIs (by decide) ?_)
  refine wpAny_bind (wpAny_callSpecial?_slot (name := Str.ofString "__getitem__") ht.typeIs PyProof.Rows.slot_tuple_getitem
    (wpAny_call_entry PyProof.Rows.slot_tuple_getitem ht.typeIs entry_tuple_getitem ?_ (args_tuple_getitem _ _)))
  show wpAny _ _ (Builtin.Tuple.tupleItemsOf (.ref t) >>= _) _ _ s
  refine wpAny_bind (tupleItemsOf_ ht ?_)
  refine wpAny_bind (wpAny_typeOf hTs ?_)
  rw [if_pos (by decide), esz]
  refine wpAny_bind (sliceApplied_step hs ps hc ?_)
  have hno : ¬ ((stepLo c its.length == 0 && c == 1 && Builtin.Slice.slicePlaces (stepLo c its.length) (stepHi c its.length) c == its.length) = true) := by
    intro q
    rw [Bool.and_eq_true, Bool.and_eq_true] at q
    rw [hc1] at q
    exact Bool.false_ne_true q.1.2
  show wpAny _ _ (if (stepLo c its.length == 0 && c == 1 && Builtin.Slice.slicePlaces (stepLo c its.length) (stepHi c its.length) c == its.length) = true then _ else _) _ _ s
  rw [if_neg hno]
  have ep : ((List.range (Builtin.Slice.slicePlaces (stepLo c its.length) (stepHi c its.length) c)).filterMap fun (k : Nat) => its.toArray[(stepLo c its.length + (k : Int) * c).toNat]?).toArray = (stepL c its).toArray := by
    unfold stepL stepIx
    rw [List.filterMap_map]
    simp
    rfl
  rw [ep]
  first
    | exact wpAny_bind (m := Builtin.Tuple.tupleExact _) (wpAny_newObj_type (wpAny_pure ⟨_, rfl, wpAny_pure h⟩) htake)
    | exact wpAny_bind (m := Builtin.Tuple.tupleExact _) (wpAny_newObj_type (wpAny_bind (wpAny_pure (wpAny_pure ⟨_, rfl, wpAny_pure h⟩))) htake)
    | exact wpAny_bind (wpAny_bind (m := Builtin.Tuple.tupleExact _) (wpAny_newObj_type (wpAny_pure (wpAny_pure ⟨_, rfl, wpAny_pure h⟩)) htake))
    | exact wpAny_bind (wpAny_bind (m := Builtin.Tuple.tupleExact _) (wpAny_newObj_type (wpAny_pure ⟨_, rfl, wpAny_pure h⟩) htake))
end
def tStepT (K : PySem.W.Frag) (c : Int) (te : TE) : TE := fun σ H Q => te σ H fun x H1 => ∃ a xs, x = .ref a ∧ SqT K H1 a xs ∧ (stepL c xs).length ≤ sizeLine ∧ ∀ p, H1 p = none → Q (.ref p) (upd H1 p (.tup (stepL c xs)))
theorem pe_stepT {X : Cx} {e se : Expr} {te : TE} {tp : TO} {p3 pos : Pos} {c : Int} (K : PySem.W.Frag) (he : PE X e te) (hst : PO X (some se) tp) (hts : ∀ σ H (Q : Option Int → Hp → Prop), Q (some c) H → tp σ H Q) (hc : (c == 0) = false) (hc1 : (c == 1) = false) (hK : X.K = K := by rfl)
    (htail : ∀ (v u : Value), subscripted (.Slice none none (some se) p3) false v u = operate [v, u] (getItem v u) := by intro _ _; with_unfolding_all rfl) : PE X (.Subscript e (.Slice none none (some se) p3) pos) (tStepT K c te) := by
  subst hK
  refine ⟨fun pins s σ H Q I h => ?_⟩
  refine Subscript_ (thn (he.run pins s σ H _ I h) fun v s1 ⟨x, H1, I1, r1, q1⟩ => ?_)
  obtain ⟨a, xs, ex, hx, hz, q⟩ := q1
  subst ex
  have ev : v = .ref a := r1
  subst ev
  refine wpAny_Slice (thn (po_none.run pins s1 σ H1 (fun o H2 => o = none ∧ H2 = H1) I1 ⟨rfl, rfl⟩) fun vl s2 ⟨l, H2, I2, pl, el, e2⟩ => ?_)
  subst el e2
  refine thn (po_none.run pins s2 σ H2 (fun o H3 => o = none ∧ H3 = H2) I2 ⟨rfl, rfl⟩) fun vu s3 ⟨u, H3, I3, pu, eu, e3⟩ => ?_
  subst eu e3
  refine thn (hst.run pins s3 σ H3 (fun o H4 => o = some c ∧ H4 = H3) I3 (hts _ _ _ ⟨rfl, rfl⟩)) fun vs s4 ⟨o, H4, I4, ps, eo, e4⟩ => ?_
  subst eo e4
  cases pl
  cases pu
  have I5 : Inv X pins σ H4 { s4 with heap := s4.heap.push { cls := .type "slice", data := .fields #[.none, .none, vs] } } := I4.kept (t' := s4.toks) fun b ob z => Heap.get?_push_of_some _ z
  obtain ⟨its, r, ht, hzz⟩ := I5.tuple hx
  show wpAny (model X.prog X.w) X.A (subscriptTail e (.Slice none none (some se) p3) (.ref a) (.ref s4.heap.objs.size)) (EP X pins σ Q) X.xe { s4 with heap := s4.heap.push { cls := .type "slice", data := .fields #[.none, .none, vs] } }
  have rr : Vals (stepL c xs) (stepL c its) := by
    unfold stepL
    rw [r.length]
    exact vals_pick r _
  refine tail_any (ops := [.ref a, .ref s4.heap.objs.size]) ht.typeIs (PyProof.Rows.slot_tuple_getitem.lookup) ?_ (htail _ _)
  refine getItem_tuple_step ht (Heap.IsSliceOf.new _ .none .none vs) ps hc hc1 ?_ (by rw [← rr.length]; exact hz)
  refine ⟨.ref _, _, I5.laid (t' := s4.toks) (o := .tup (stepL c xs)) (fun b ob z => Heap.get?_push_of_some _ z) (Nat.le_refl _) ?_, rfl, q _ (I5.hok.fresh (Nat.le_refl _))⟩
  exact ⟨hz, _, rr, ⟨_, Heap.get?_push_size _ rfl, rfl, _, rfl⟩⟩
section
variable {X : Cx} {e : Expr} {te : TE} {k : Nat} {p1 p2 p3 pos : Pos} (K : PySem.W.Frag)
theorem k_revT (he : PE X e te) (hK : X.K = K := by rfl) : PE X (.Subscript e (.Slice none none (some (.UnaryOp .USub (.Constant (.int 1) k p1) p2)) p3) pos) (tStepT K (-1) te) :=
  pe_stepT K he (po_some (pe_un un_neg pe_int)) (fun σ H Q q => ⟨1, rfl, -1, rfl, q⟩) rfl rfl hK
end
theorem range_pick {α : Type} : ∀ l : List α, ((List.range l.length).filterMap fun k => l[k]?) = l
  | [] => rfl
  | a :: r => by
    rw [List.length_cons, List.range_succ_eq_map, List.filterMap_cons, List.filterMap_map]
    show a :: (List.range r.length).filterMap (fun k => r[k]?) = a :: r
    rw [range_pick r]
theorem stepIx_back (n : Nat) : stepIx (-1) n = (List.range n).map fun k => n - 1 - k := by
  have e1 : Builtin.Slice.slicePlaces ((n : Int) - 1) (-1) (-1) = n := by
    unfold Builtin.Slice.slicePlaces
    rw [if_neg (by decide)]
    by_cases h : n = 0
    · rw [if_neg (by omega)]; omega
    · rw [if_pos (by omega)]
      have e : ((n : Int) - 1 - -1 - 1) / (- -1) = (n : Int) - 1 := by
        have : (- -1 : Int) = 1 := rfl
        rw [this, Int.ediv_one]; omega
      rw [e]; omega
  show (List.range (Builtin.Slice.slicePlaces ((n : Int) - 1) (-1) (-1))).map (fun (k : Nat) => (((n : Int) - 1) + (k : Int) * (-1)).toNat) = _
  rw [e1]
  refine List.map_congr_left fun k hk => ?_
  have := List.mem_range.mp hk
  omega
theorem fm_congr {α β : Type} {f g : α → Option β} : ∀ {l : List α}, (∀ a ∈ l, f a = g a) → l.filterMap f = l.filterMap g
  | [], _ => rfl
  | a :: r, h => by rw [List.filterMap_cons, List.filterMap_cons, h a List.mem_cons_self, fm_congr fun b hb => h b (List.mem_cons_of_mem _ hb)]
theorem stepL_back {α : Type} (xs : List α) : stepL (-1) xs = xs.reverse := by
  unfold stepL
  rw [stepIx_back, List.filterMap_map]
  have e := range_pick xs.reverse
  rw [List.length_reverse] at e
  rw [← e]
  refine fm_congr fun k hk => ?_
  have := List.mem_range.mp hk
  show xs[xs.length - 1 - k]? = (xs.reverse)[k]?
  rw [List.getElem?_reverse this]
section
variable {J : It} {n : Nat} {G : Hp → Prop} {Y : Nat → Hp → V → Hp → Prop} {g : TG} {tt : TT} {te : TE} {vs : List Nat} {σ : L2.St} {H1 : Hp} {D : Addr} {Q : VK} {α : Type}
theorem lc_fmd (K : PySem.W.Frag) (w : Walk J n G Y) (l : List α) (f : α → Option PyData) (hl : l.length = n) (hn : n ≤ 100000) (hf : ∀ a d, f a = some d → flatD d = true) (hD : H1 D = none) (hG : ∀ H, Same H1 H → G H)
    (hs : ∀ i x a H H', l[i]? = some a → Same H1 H → Y i H x H' → ∀ (Qy : VK) (Qn : Hp → Prop), (∀ y d H4, Same H H4 → f a = some d → Dp K H4 y d → Qy y H4) → (∀ H4, Same H H4 → f a = none → Qn H4) →
      g x (wipe σ vs) H' fun σ2 H2 => wipe σ2 vs = wipe σ vs ∧ tt σ2 H2 fun b H3 => if b = true then te σ2 H3 (fun y H4 => Qy y H4) else Qn H3)
    (hd : ∀ acc H, Same H1 H → H1 D = none → H D = some (.lst acc) → DpAll K H acc (l.filterMap f) → Q (.ref D) H) : LcOk J g tt te vs σ H1 D Q := by
  have flat : ∀ l' : List α, flatDs (l'.filterMap f) = true := by
    intro l'
    induction l' with
    | nil => rfl
    | cons a r ih =>
      rw [List.filterMap_cons]
      cases e : f a with
      | none => exact ih
      | some d => show (flatD d && flatDs (r.filterMap f)) = true; rw [hf a d e, ih]; rfl
  let Acc : Nat → List V → Hp → Prop := fun i acc H => DpAll K H acc ((l.take i).filterMap f)
  refine lc_go w Acc hD hG (by show DpAll K _ [] _; simp; exact .nil) (fun i x H H' acc hi s e l0 a hy => ?_) fun acc H s e _ a => ?_
  · have ha : l[i]? = some l[i] := List.getElem?_eq_getElem (by omega)
    have aa : DpAll K H acc ((l.take i).filterMap f) := a
    refine hs i x l[i] H H' ha s hy (fun y H4 => LcY H1 D Acc i y H4) (fun H4 => LcI H1 D Acc (i + 1) H4) (fun y d H4 s4 ed dy => ?_) fun H4 s4 ed => ?_
    · have e4 := s4 _ _ e
      refine lc_y (Acc := Acc) hD (s.trans s4) e4 l0 (by omega) ?_
      have st : SameT H4 (upd H4 D (.lst (acc ++ [y]))) := SameT.lst e4
      show DpAll K _ (acc ++ [y]) ((l.take (i + 1)).filterMap f)
      rw [take_succ_snoc ha, List.filterMap_append, List.filterMap_cons, ed]
      exact dps_snoc (dps_flat st (dps_same s4 aa) (flat _)) (dp_flat st dy (hf _ _ ed))
    · refine lc_skip (Acc := Acc) (s.trans s4) (s4 _ _ e) l0 ?_
      show DpAll K _ acc ((l.take (i + 1)).filterMap f)
      rw [take_succ_snoc ha, List.filterMap_append, List.filterMap_cons, ed]
      simp
      exact dps_same s4 aa
  · have aa : DpAll K H acc ((l.take n).filterMap f) := a
    rw [List.take_of_length_le (by omega)] at aa
    exact hd acc H s hD e aa
end
structure IsCan (f : Str → Int) (ps : Bag) : Prop where
  asc : ps.Pairwise fun a b => ltS a.1 b.1
  pos : ∀ p ∈ ps, 0 < p.2
  cnt : ∀ n, getT ps n = f n
theorem getT_cons (p : Str × Int) (r : Bag) (n : Str) : getT (p :: r) n = if p.1 = n then p.2 else getT r n := by
  unfold getT
  rw [List.find?_cons]
  by_cases e : p.1 = n
  · rw [if_pos e, decide_eq_true e]; rfl
  · rw [if_neg e, decide_eq_false e]
theorem getT_out {t : Bag} {n : Str} (h : ∀ p ∈ t, p.1 ≠ n) : getT t n = 0 := by
  unfold getT
  rw [List.find?_eq_none.mpr fun p hp => by simpa using h p hp]; rfl
theorem getT_mem : ∀ {t : Bag} {p : Str × Int}, (t.map (·.1)).Nodup → p ∈ t → getT t p.1 = p.2
  | [], p, _, h => by cases h
  | q :: r, p, nd, h => by
    rw [getT_cons]
    have nd' := List.nodup_cons.mp (show (q.1 :: r.map (·.1)).Nodup from nd)
    rcases List.mem_cons.mp h with e | h
    · rw [e, if_pos rfl]
    · rw [if_neg (fun e : q.1 = p.1 => nd'.1 (by rw [e]; exact List.mem_map.mpr ⟨p, h, rfl⟩))]
      exact getT_mem nd'.2 h
theorem asc_nodup {ps : Bag} (h : ps.Pairwise fun a b => ltS a.1 b.1) : (ps.map (·.1)).Nodup := by
  unfold List.Nodup
  rw [List.pairwise_map]
  exact h.imp fun h => ltS_ne h
def addN (l : List Str) (n : Str) : List Str := if n ∈ l then l else l ++ [n]
def namesOf (ns : List Str) : List Str := ns.foldl addN []
theorem addN_len (l : List Str) (n : Str) : (addN l n).length ≤ l.length + 1 ∧ l.length ≤ (addN l n).length := by
  unfold addN
  split <;> simp
theorem addN_mem {l : List Str} {n x : Str} : x ∈ addN l n ↔ x ∈ l ∨ x = n := by
  unfold addN
  split
  · rename_i h
    exact ⟨.inl, fun z => z.elim id fun e => e ▸ h⟩
  · simp
theorem addN_nodup {l : List Str} {n : Str} (h : l.Nodup) : (addN l n).Nodup := by
  unfold addN
  split
  · exact h
  · rename_i hn
    rw [List.nodup_append]
    exact ⟨h, by simp, fun a ha b hb e => by rw [List.mem_singleton] at hb; subst hb; exact hn (e ▸ ha)⟩
theorem namesOf_aux : ∀ (ns acc : List Str), acc.Nodup → (ns.foldl addN acc).Nodup ∧ (∀ x, x ∈ ns.foldl addN acc ↔ x ∈ acc ∨ x ∈ ns) ∧ acc.length ≤ (ns.foldl addN acc).length ∧ (ns.foldl addN acc).length ≤ acc.length + ns.length
  | [], acc, h => ⟨h, by simp, by simp, by simp⟩
  | n :: r, acc, h => by
    obtain ⟨h1, h2, h3, h4⟩ := namesOf_aux r (addN acc n) (addN_nodup h)
    have hl := addN_len acc n
    refine ⟨h1, fun x => ?_, by simp only [List.foldl_cons]; omega, by simp only [List.foldl_cons, List.length_cons]; omega⟩
    rw [List.foldl_cons, h2, addN_mem, List.mem_cons, or_assoc]
theorem namesOf_nodup (ns : List Str) : (namesOf ns).Nodup := (namesOf_aux ns [] List.nodup_nil).1
theorem namesOf_mem {ns : List Str} {x : Str} : x ∈ namesOf ns ↔ x ∈ ns := by have := (namesOf_aux ns [] List.nodup_nil).2.1 x; simpa [namesOf] using this
theorem tab_keys : ∀ (ps t : Bag), (ps.foldl addT t).map (·.1) = (ps.map (·.1)).foldl addN (t.map (·.1))
  | [], t => rfl
  | p :: r, t => by
    rw [List.foldl_cons, tab_keys r, List.map_cons, List.foldl_cons]
    congr 1
    unfold addT putT addN
    have e : (t.any fun q => decide (q.1 = p.1)) = decide (p.1 ∈ t.map (·.1)) := by
      by_cases h : p.1 ∈ t.map (·.1)
      · rw [decide_eq_true h, List.any_eq_true]
        obtain ⟨q, hq, e⟩ := List.mem_map.mp h
        exact ⟨q, hq, decide_eq_true e⟩
      · rw [decide_eq_false h, Bool.eq_false_iff]
        intro z
        obtain ⟨q, hq, e⟩ := List.any_eq_true.mp z
        exact h (List.mem_map.mpr ⟨q, hq, of_decide_eq_true e⟩)
    rw [e]
    by_cases h : p.1 ∈ t.map (·.1)
    · rw [if_pos (decide_eq_true h), if_pos h, List.map_map]
      refine List.map_congr_left fun q _ => ?_
      by_cases z : q.1 = p.1
      · simp [z]
      · simp [z]
    · rw [if_neg (by rw [decide_eq_false h]; exact Bool.false_ne_true), if_neg h, List.map_append]; rfl
theorem tabOf_keys (ps : Bag) : (tabOf ps).map (·.1) = namesOf (ps.map (·.1)) := tab_keys ps []
theorem cnt_pos {ps : Bag} (h : ∀ p ∈ ps, 0 ≤ p.2) (n : Str) : 0 ≤ cntC ps n := by
  unfold cntC
  generalize hl : ps.filter (fun p => decide (p.1 = n)) = l
  have hm : ∀ p ∈ l, 0 ≤ p.2 := fun p hp => h p ((List.mem_filter.mp (by rw [hl]; exact hp)).1)
  clear hl
  induction l with
  | nil => simp
  | cons p r ih =>
    rw [List.map_cons, List.sum_cons]
    have := hm p List.mem_cons_self
    have := ih fun q hq => hm q (List.mem_cons_of_mem _ hq)
    omega
end TP
namespace TP
open PySem PySem.Spec PyProof.Rows L2
def rSortedDk : List V → Hp → VK → Prop := fun xs H Q => ∃ (a : Addr) (kvs : List (Key × V)) (ks : List Str), xs = [.ref a] ∧ Rd H a (.dK kvs) ∧ kvs.map (·.1) = ks.map Sum.inr ∧ ks.length < 64 ∧
    ∀ ys p, ys.Perm ks → sortedS ys = true → H p = none → Q (.ref p) (upd H p (.lst (ys.map V.str)))
theorem c_sortedDk {X : Cx} (hc : X.calm = true) : CallR X (.builtin "sorted") rSortedDk := call_sortedD hc
def DGetC (x y : V) (H : Hp) (Q : VK) : Prop := ∃ a v, x = .ref a ∧ DGet H a y (some v) ∧ Q v H
theorem eqv_self : ∀ d : PyData, d.canLay0 = true → PyData.eqv d d = true := PySem.SeqAt.eqv_refl
section
variable {K : PySem.W.Frag} {σ : L2.St} {H : Hp} {Q : VK} {te td ty : TE} {QB : Bool → Hp → Prop} {a : Addr} {xs : List V} {v w : V}
theorem w_sortedDk {t : Bag} (h1 : H a = some (.dK (kvOf t))) (hl : t.length < 64) (h : ∀ (ys : List Str) (p : Addr), ys.Perm (t.map (·.1)) → sortedS ys = true → H p = none → Q (.ref p) (upd H p (.lst (ys.map V.str)))) : rSortedDk [.ref a] H Q :=
  ⟨a, kvOf t, t.map (·.1), rfl, .inl h1, by unfold kvOf; rw [List.map_map, List.map_map]; rfl, by rw [List.length_map]; exact hl, h⟩
theorem w_dget (h : td σ H fun x H1 => ty σ H1 fun y H2 => DGetC x y H2 Q) : tDGet td ty σ H Q := h
instance i_w_dget : StepX (tDGet td ty σ H Q) (td σ H fun x H1 => ty σ H1 fun y H2 => DGetC x y H2 Q) := ⟨fun h => w_dget h⟩
theorem w_dgetc {kvs : List (Key × V)} {n : Str} (h1 : H a = some (.dK kvs)) (e : valV kvs (.inr n) = some v) (h : Q v H) : DGetC (.ref a) (.str n) H Q := ⟨a, v, rfl, by have := DGet.k (k := .inr n) h1; rw [e] at this; exact this, h⟩
end
def SameV (K : PySem.W.Frag) (H : Hp) (x y : V) : Prop := (x = y ∧ flatB x = true) ∨ ∃ d, Dp K H x d ∧ Dp K H y d ∧ SeqAt.shaped d = true
inductive AllSame (K : PySem.W.Frag) (H : Hp) : List V → List V → Prop
  | nil : AllSame K H [] []
  | cons {x y : V} {xs ys : List V} : SameV K H x y → AllSame K H xs ys → AllSame K H (x :: xs) (y :: ys)
theorem AllSame.len {K : PySem.W.Frag} {H : Hp} : ∀ {xs ys : List V}, AllSame K H xs ys → xs.length = ys.length
  | _, _, .nil => rfl
  | _, _, .cons _ r => by rw [List.length_cons, List.length_cons, r.len]
theorem AllSame.flat {K : PySem.W.Frag} {H : Hp} : ∀ {xs : List V}, xs.all flatB = true → AllSame K H xs xs
  | [], _ => .nil
  | x :: r, h => by
    have h' := Bool.and_eq_true_iff.mp (show (flatB x && r.all flatB) = true from h)
    exact .cons (.inl ⟨rfl, h'.1⟩) (AllSame.flat h'.2)
def rNeL (K : PySem.W.Frag) : R2 := fun x y H Q => ∃ a b xs ys, x = .ref a ∧ y = .ref b ∧ SqL K H a xs ∧ SqL K H b ys ∧ AllSame K H xs ys ∧ Q (.bl false) H
section
variable {X : Cx} {pins : List (Addr × Obj)} {σ : L2.St} {H : Hp} {s : Shared}
theorem sameV_at (I : Inv X pins σ H s) (hu : X.A.units + 66 < cLine) {x y : V} {v u : Value} (h : SameV X.K H x y) (rx : RelV x v) (ry : RelV y u) : SeqAt.EqAt X.A.in1 s v u true := by
  rcases h with ⟨rfl, f⟩ | ⟨d, h1, h2, sh⟩
  · exact eqAt_same rx ry f
  · obtain ⟨as, r1⟩ := Dp.reads I d x v h1 rx
    obtain ⟨bs, r2⟩ := Dp.reads I d y u h2 ry
    have c := SeqAt.canLay_of_shaped sh
    have := SeqAt.eqAt_reads d d X.A.in1 s v u as bs r1 r2 c c (by have := SeqAt.depth_of_shaped sh; show X.A.units + 1 + min d.depth d.depth < cLine; omega)
    rwa [eqv_self d c] at this
theorem sameV_items (I : Inv X pins σ H s) (hu : X.A.units + 66 < cLine) : ∀ {xs ys : List V}, AllSame X.K H xs ys → ∀ {us ws : List Value}, Vals xs us → Vals ys ws → ∀ j (h1 : j < us.length) (h2 : j < ws.length), SeqAt.EqAt X.A.in1 s us[j] ws[j] true
  | _, _, .nil, us, ws, r1, r2, j, h1, h2 => by cases r1; exact absurd h1 (Nat.not_lt_zero j)
  | _, _, .cons h t, us, ws, r1, r2, j, h1, h2 => by
    cases r1 with
    | cons a1 b1 =>
      cases r2 with
      | cons a2 b2 =>
        cases j with
        | zero => exact sameV_at I hu h a1 a2
        | succ j => exact sameV_items I hu t b1 b2 j (Nat.lt_of_succ_lt_succ h1) (Nat.lt_of_succ_lt_succ h2)
theorem op_neL (hu : X.A.units + 66 < cLine) : OpR X (compareOp .NotEq) (rNeL X.K) := by
  intro pins s σ H x y v u Q I rx ry h
  obtain ⟨a, b, xs, ys, rfl, rfl, ha, hb, hp, q⟩ := h
  cases (show v = Value.ref a from rx)
  cases (show u = Value.ref b from ry)
  obtain ⟨us, r1, p1, _⟩ := I.list ha
  obtain ⟨ws, r2, p2, _⟩ := I.list hb
  have hsz : us.toArray.size = ws.toArray.size := by rw [List.size_toArray, List.size_toArray, ← r1.length, ← r2.length]; exact hp.len
  refine SeqAt.RcNeAt.lists (e := fun _ => true) p1.isList p2.isList hsz (by omega) (fun j h1 h2 => ?_) X.prog X.w _ _ ?_
  · have k := sameV_items I hu hp r1 r2 j (by simpa using h1) (by simpa using h2)
    simpa using k
  · rw [show ((List.range us.toArray.size).all fun _ => true) = true from List.all_eq_true.mpr fun _ _ => rfl]
    exact ⟨.bl false, H, I, rfl, q⟩
theorem k_neL (K : PySem.W.Frag) (hu : X.A.units + 66 < cLine) (h : X.K = K := by rfl) : OpR X (compareOp .NotEq) (rNeL K) := by subst h; exact op_neL hu
end
section
variable {K : PySem.W.Frag} {H : Hp} {Q : VK} {a b : Addr} {xs ys : List V}
theorem w_neL (h1 : SqL K H a xs) (h2 : SqL K H b ys) (hs : AllSame K H xs ys) (h : Q (.bl false) H) : rNeL K (.ref a) (.ref b) H Q := ⟨a, b, xs, ys, rfl, rfl, h1, h2, hs, h⟩
theorem w_neF (h1 : SqL K H a xs) (h2 : SqL K H b ys) (e : xs = ys) (hf : xs.all flatB = true) (h : Q (.bl false) H) : rNeL K (.ref a) (.ref b) H Q := w_neL h1 h2 (by rw [← e]; exact .flat hf) h
end
def canF (f : Str → Int) (ys : List Str) : Bag := ys.filterMap fun y => if 0 < f y then some (y, f y) else none
theorem canF_mem {f : Str → Int} {ys : List Str} {p : Str × Int} (h : p ∈ canF f ys) : p.1 ∈ ys ∧ p.2 = f p.1 ∧ 0 < p.2 := by
  unfold canF at h
  obtain ⟨y, hy, e⟩ := List.mem_filterMap.mp h
  by_cases z : 0 < f y
  · rw [if_pos z] at e
    cases e
    exact ⟨hy, rfl, z⟩
  · rw [if_neg z] at e; cases e
theorem canF_cons (f : Str → Int) (y : Str) (r : List Str) : canF f (y :: r) = (if 0 < f y then [(y, f y)] else []) ++ canF f r := by
  unfold canF
  rw [List.filterMap_cons]
  by_cases z : 0 < f y
  · rw [if_pos z, if_pos z]; rfl
  · rw [if_neg z, if_neg z]; rfl
theorem canF_get (f : Str → Int) : ∀ (ys : List Str) (n : Str), getT (canF f ys) n = if n ∈ ys ∧ 0 < f n then f n else 0
  | [], n => by simp [canF, getT]
  | y :: r, n => by
    rw [canF_cons]
    by_cases z : 0 < f y
    · rw [if_pos z]
      show getT ((y, f y) :: canF f r) n = _
      rw [getT_cons, canF_get f r]
      by_cases e : y = n
      · subst e
        rw [if_pos rfl, if_pos ⟨List.mem_cons_self, z⟩]
      · rw [if_neg (show ¬ (y, f y).1 = n from e)]
        have : (n ∈ y :: r ∧ 0 < f n) ↔ (n ∈ r ∧ 0 < f n) := by
          rw [List.mem_cons]
          exact ⟨fun ⟨h, h2⟩ => ⟨h.elim (fun q => absurd q.symm e) id, h2⟩, fun ⟨h, h2⟩ => ⟨.inr h, h2⟩⟩
        simp only [this]
    · rw [if_neg z]
      show getT (canF f r) n = _
      rw [canF_get f r]
      have : (n ∈ y :: r ∧ 0 < f n) ↔ (n ∈ r ∧ 0 < f n) := by
        rw [List.mem_cons]
        exact ⟨fun ⟨h, h2⟩ => ⟨h.elim (fun q => absurd (q ▸ h2) z) id, h2⟩, fun ⟨h, h2⟩ => ⟨.inr h, h2⟩⟩
      simp only [this]
theorem canF_asc {f : Str → Int} : ∀ {ys : List Str}, ys.Pairwise ltS → (canF f ys).Pairwise fun a b => ltS a.1 b.1
  | [], _ => .nil
  | y :: r, h => by
    have h' := List.pairwise_cons.mp h
    rw [canF_cons]
    have ih := canF_asc (f := f) h'.2
    split
    · exact List.pairwise_cons.mpr ⟨fun p hp => h'.1 _ (canF_mem hp).1, ih⟩
    · exact ih
def posI (i : Int) : Int := if 0 < i then i else 0
theorem canF_can {t : Bag} {ys : List Str} (hp : ys.Perm (t.map (·.1))) (asc : ys.Pairwise ltS) : IsCan (fun n => posI (getT t n)) (canF (getT t) ys) := by
  refine ⟨canF_asc asc, fun p hp => (canF_mem hp).2.2, fun n => ?_⟩
  rw [canF_get]
  show _ = if 0 < getT t n then getT t n else 0
  by_cases z : 0 < getT t n
  · have : n ∈ ys := hp.mem_iff.mpr (Classical.byContradiction fun q => by
      rw [getT_out (fun p hp e => q (List.mem_map.mpr ⟨p, hp, e⟩))] at z
      omega)
    rw [if_pos ⟨this, z⟩, if_pos z]
  · rw [if_neg (fun q => z q.2), if_neg z]
theorem canF_len (f : Str → Int) (ys : List Str) : (canF f ys).length ≤ ys.length := List.length_filterMap_le _ _
theorem IsCan.ok {f : Str → Int} {ps : Bag} (h : IsCan f ps) (hn : ∀ p ∈ ps, isName p.1 = true) : BagOk ps := ⟨h.asc, hn, fun p hp => by have := h.pos p hp; omega⟩
theorem kv_some {t : Bag} {n : Str} (h : n ∈ t.map (·.1)) : valV (kvOf t) (Sum.inr n) = some (.int (getT t n)) := by
  rw [kv_find]
  unfold getT
  cases e : t.find? fun p => decide (p.1 = n) with
  | some p => rfl
  | none =>
    obtain ⟨p, hp, e2⟩ := List.mem_map.mp h
    have := List.find?_eq_none.mp e p hp
    simp [e2] at this
theorem cntC_cons (p : Str × Int) (r : Bag) (n : Str) : cntC (p :: r) n = (if p.1 = n then p.2 else 0) + cntC r n := by
  unfold cntC
  by_cases e : p.1 = n
  · rw [List.filter_cons_of_pos (by simpa using e), List.map_cons, List.sum_cons, if_pos e]
  · rw [List.filter_cons_of_neg (by simpa using e), if_neg e]; omega
theorem cnt_some {ps : Bag} (h : ∀ p ∈ ps, 1 ≤ p.2) {p : Str × Int} (hp : p ∈ ps) : 0 < cntC ps p.1 := by
  induction ps with
  | nil => cases hp
  | cons q r ih =>
    rw [cntC_cons]
    have h0 := h q List.mem_cons_self
    have hr := cnt_pos (ps := r) (fun z hz => by have := h z (List.mem_cons_of_mem _ hz); omega) p.1
    rcases List.mem_cons.mp hp with rfl | hp
    · rw [if_pos rfl]; omega
    · have := ih (fun z hz => h z (List.mem_cons_of_mem _ hz)) hp
      split <;> omega
theorem w_catT {K : PySem.W.Frag} {H : Hp} {Q : VK} {a b : Addr} {xs ys : List V} (h1 : SqT K H a xs) (h2 : SqT K H b ys) (hz : xs.length + ys.length ≤ 100000) (h : ∀ c H', Same H H' → SqT K H' c (xs ++ ys) → Q (.ref c) H') : rCatA K (.ref a) (.ref b) H Q := by
  refine ⟨a, b, xs, ys, rfl, rfl, h1, h2, sz_le hz, fun e => ?_, fun _ e => ?_, fun _ _ p hp => ?_⟩
  · subst e; exact h b H (Same.refl _) h2
  · subst e; exact h a H (Same.refl _) (by rw [List.append_nil]; exact h1)
  · exact h p _ (same_new hp) (SqT.of upd_same)
theorem w_catD {K : PySem.W.Frag} {H : Hp} {Q : VK} {v w : V} {ds es : List PyData} (h1 : Dp K H v (.tuple ds)) (h2 : Dp K H w (.tuple es)) (hz : ds.length + es.length ≤ 100000) (h : ∀ c H', Same H H' → Dp K H' c (.tuple (ds ++ es)) → Q c H') : rCatA K v w H Q := by
  obtain ⟨a, xs, rfl, hs, hx⟩ := dp_tup_inv h1
  obtain ⟨b, ys, rfl, ht, hy⟩ := dp_tup_inv h2
  refine w_catT hs ht (by rw [dps_len hx, dps_len hy]; exact hz) fun c H' s hc => h _ _ s (.tup hc (dps_app (dps_same s hx) (dps_same s hy)))
def StepC (K : PySem.W.Frag) (c : Int) (v : V) (H : Hp) (Q : VK) : Prop := ∃ a xs, v = .ref a ∧ SqT K H a xs ∧ (stepL c xs).length ≤ sizeLine ∧ ∀ p, H p = none → Q (.ref p) (upd H p (.tup (stepL c xs)))
theorem w_stepT2 {K : PySem.W.Frag} {c : Int} {σ : L2.St} {H : Hp} {Q : VK} {te : TE} (h : te σ H fun x H1 => StepC K c x H1 Q) : tStepT K c te σ H Q := h
instance i_w_stepT2 {K : PySem.W.Frag} {c : Int} {σ : L2.St} {H : Hp} {Q : VK} {te : TE} : StepX (tStepT K c te σ H Q) (te σ H fun x H1 => StepC K c x H1 Q) := ⟨fun h => w_stepT2 h⟩
theorem cutV_take {xs : List V} {k : Nat} : cutV xs none (some (k : Int)) = xs.take k := by
  unfold cutV
  rw [HT.sIx_none, HT.sIx_nat]
  simp
end TP
namespace TP
open PySem PySem.Spec PyProof.Rows L2
structure DfdM (K : PySem.W.Frag) (C m q : Str) (st : Stmt) (dvs : List V) : Prop where
  ex : ∃ fd, FunD K m q (defArgs st) (defBody st) (defScope st) dvs [] (He.ma K (He.ga K C) m) fd
  mt : Meth K (He.ga K C) m (He.ma K (He.ga K C) m)
structure HasM (P : Program) (w : World) (K : PySem.W.Frag) (mg : Str → Option Value) (base : Heap) (CX : CXT) (k : Nat) (C m q : Str) (st : Stmt) (dvs : List V) (ps : List Str) (sp : Sp) : Prop where
  ex : ∃ fd, FunD K m q (defArgs st) (defBody st) (defScope st) dvs [] (He.ma K (He.ga K C) m) fd ∧ FnG P w K mg base CX k (He.ma K (He.ga K C) m) fd ps sp
  mt : Meth K (He.ga K C) m (He.ma K (He.ga K C) m)
section
variable {P : Program} {w : World} {K : PySem.W.Frag} {mg : Str → Option Value} {base : Heap} {CX : CXT} {k j : Nat} {C m q : Str} {st : Stmt} {dvs : List V} {N ps : List Str} {sp sp' : Sp}
theorem DfdM.has (D : DfdM K C m q st dvs) (S : FnScope N ps (defScope st)) (len : ∀ vs H Q E, sp vs H Q E → vs.length = ps.length)
    (hbody : ∀ (cdv : Value) (A : Around) (outer : List Env) (s : Shared) (H : Hp) (vs : List V) (Q : VK) (E : XK), Room k (A.deeper (envOfC q (defScope st) s.heap.objs.size (He.ma K (He.ga K C) m) cdv)) → (A.deeper (envOfC q (defScope st) s.heap.objs.size (He.ma K (He.ga K C) m) cdv)).guards = some [] → sp vs H Q E →
      ∃ t, PSs (cxOf CX P w K mg base N q (defScope st) (He.ma K (He.ga K C) m) cdv A outer s H E) (defBody st) t ∧ t { nx := fun _ H' => Q .non H', rt := Q } (start N vs) H) :
    HasM P w K mg base CX (k + 1) C m q st dvs ps sp := by
  obtain ⟨fd, F⟩ := D.ex
  exact ⟨⟨fd, F, fnG_of F S len hbody⟩, D.mt⟩
end
theorem ex_at {K : PySem.W.Frag} {ex : List (PySem.W.Frag → Bool)} (h : (ex.all fun e => e K) = true) (i : Nat) {e : PySem.W.Frag → Bool} (hi : ex[i]? = some e := by rfl) : e K = true := List.all_eq_true.mp h e (List.mem_of_getElem? hi)
def LenC (n k : Nat) (vs zs : List V) (P : Prop) : Prop := vs.length = n ∧ zs.length = k ∧ P
def FldC (K : PySem.W.Frag) (f : Str) (x : V) (H : Hp) (Q : VK) : Prop := ∃ a C dx fs v, x = .ref a ∧ H a = some (.ins C dx fs) ∧ Cls K C ∧ NoAttr K C f ∧ fs.lookup f = some v ∧ Q v H
def SetC (K : PySem.W.Frag) (f : Str) (x y : V) (H : Hp) (k : Hp → Prop) : Prop := ∃ a C dx fs, x = .ref a ∧ H a = some (.ins C dx fs) ∧ Cls K C ∧ NoAttr K C f ∧ fs.length < 1000 ∧ k (upd H a (.ins C dx (putF f y fs)))
section
variable {K : PySem.W.Frag} {mg : Str → Option Value} {C f m : Str} {fs : List Str} {σ : L2.St} {H : Hp} {Q : VK} {ta tv : TE} {t tk : TA} {a dx : Addr} {fl : List (Str × V)} {v y : V} {De : Ends}
theorem w_fldN (h : ta σ H fun x H1 => FldC K f x H1 Q) : tFld K ta f σ H Q := h
instance i_w_fldN : StepX (tFld K ta f σ H Q) (ta σ H fun x H1 => FldC K f x H1 Q) := ⟨fun h => w_fldN h⟩
theorem w_sfld (h : tv σ H fun y H1 => ta σ H1 fun x H2 => SetC K f x y H2 fun H3 => De.nx σ H3) : sFld K ta tv f De σ H := h
instance i_w_sfld : StepX (sFld K ta tv f De σ H) (tv σ H fun y H1 => ta σ H1 fun x H2 => SetC K f x y H2 fun H3 => De.nx σ H3) := ⟨fun h => w_sfld h⟩
theorem w_lenC {n k : Nat} {vs zs : List V} {P : Prop} (h1 : vs.length = n) (h2 : zs.length = k) (h : P) : LenC n k vs zs P := ⟨h1, h2, h⟩
end
end TP
namespace TP
open PySem PySem.Spec PyProof.Rows L2
def DInC (x y : V) (H : Hp) (k : Bool → Prop) : Prop := ∃ a o, x = .ref a ∧ DGet H a y o ∧ k o.isSome
def OnK (R : It → Hp → Prop) (x : V) (H : Hp) : Prop := ∃ d o, x = .ref d ∧ ((∃ kvs, H d = some (.frz o (.dK kvs)) ∧ R (Itk d o kvs) H) ∨ ∃ kvs, H d = some (.frz o (.dT kvs)) ∧ R (Itkt d o kvs) H)
def DcOk (J : It) (g : TG) (tt : TT) (tk tv : TE) (vs : List Nat) (σ : L2.St) (H1 : Hp) (D : Addr) (Q : VK) : Prop := ∃ W : Nat → Nat → Hp → Prop, (∃ m, W 0 m (upd H1 D (.dK []))) ∧ ∀ i m H, W i m H →
  (J.stop i H ∧ Q (.ref D) H) ∨ (J.go i H ∧ ∃ Nx : Hp → Prop, (∀ H', Nx H' → ∃ m', m' < m ∧ W (i + 1) m' H') ∧ ∀ x H', J.yld i H x H' → g x (wipe σ vs) H' fun σ2 H2 => wipe σ2 vs = wipe σ vs ∧ tt σ2 H2 fun b H3 =>
    if b = true then tk σ2 H3 fun y H4 => tv σ2 H4 fun z H5 => ∃ kvs k, y = kV k ∧ H5 D = some (.dK kvs) ∧ kvs.length < sizeLine ∧ Nx (upd H5 D (.dK (putK kvs k z))) else Nx H3)
section
variable {K : PySem.W.Frag} {σ : L2.St} {H H1 : Hp} {Q : VK} {te td ty tx : TE} {a d : Addr} {kvs : List (Key × V)} {v : V} {R : It → Hp → Prop} {wi : TI} {g : TG} {tt : TT} {tk tv : TE} {vs : List Nat} {t : TE} {ts tb : TS} {De : Ends} {od : Obj} {D : Addr} {c : TT}
theorem w_din (h : ty σ H fun y H1 => td σ H1 fun x H2 => DInC x y H2 fun b => Q (.bl b) H2) : tDIn ty td σ H Q := by
  show ty σ H _
  exact h
instance i_w_din : StepX (tDIn ty td σ H Q) (ty σ H fun y H1 => td σ H1 fun x H2 => DInC x y H2 fun b => Q (.bl b) H2) := ⟨fun h => w_din h⟩
theorem w_dnotin (h : ty σ H fun y H1 => td σ H1 fun x H2 => DInC x y H2 fun b => Q (.bl (!b)) H2) : tDNotIn ty td σ H Q := by
  show ty σ H _
  exact h
instance i_w_dnotin : StepX (tDNotIn ty td σ H Q) (ty σ H fun y H1 => td σ H1 fun x H2 => DInC x y H2 fun b => Q (.bl (!b)) H2) := ⟨fun h => w_dnotin h⟩
theorem w_iKeys (h : td σ H (OnK R)) : iKeys td σ H R := h
instance i_w_iKeys : StepX (iKeys td σ H R) (td σ H (OnK R)) := ⟨fun h => w_iKeys h⟩
theorem w_dc (h : wi σ H fun J H1 => ∀ D, H1 D = none → DcOk J g tt tk tv vs σ H1 D Q) : tDc wi g tt tk tv vs σ H Q := h
instance i_w_dc : StepX (tDc wi g tt tk tv vs σ H Q) (wi σ H fun J H1 => ∀ D, H1 D = none → DcOk J g tt tk tv vs σ H1 D Q) := ⟨fun h => w_dc h⟩
end
structure TabOk (t : Bag) : Prop where
  nd : (keys t).Nodup
  pos : ∀ p ∈ t, 1 ≤ p.2
theorem BagOk.tab {ps : Bag} (h : BagOk ps) : TabOk ps := ⟨asc_nodup h.asc, h.pos⟩
end TP
namespace TP
open PySem PySem.Spec PyProof.Rows L2
def SumO (K : PySem.W.Frag) (H : Hp) (v : V) (c : Int) (ps : Bag) : Prop := ∃ a dx b, v = .ref a ∧ H a = some (.ins (He.ga K "Summary") dx [("capacity", .int c), ("counts", b)]) ∧ Dp K H b (bagD ps)
section
variable {K : PySem.W.Frag} {mg : Str → Option Value} {H H' : Hp} {Q : VK} {v : V} {c : Int} {ps : Bag}
theorem sum_same (s : Same H H') (h : SumO K H v c ps) : SumO K H' v c ps := by
  obtain ⟨a, dx, b, rfl, h1, h2⟩ := h
  exact ⟨a, dx, b, rfl, s _ _ h1, dp_same s h2⟩
end
theorem WordsOk.take {ws : List Str} {n : Nat} (h : WordsOk ws n) (k : Nat) : WordsOk (ws.take k) (ws.take k).length := ⟨rfl, h.nd.sublist (List.take_sublist k ws), fun w hw => h.nam w (List.mem_of_mem_take hw)⟩
theorem WordsOk.drop {ws : List Str} {n : Nat} (h : WordsOk ws n) (k : Nat) : WordsOk (ws.drop k) (ws.drop k).length := ⟨rfl, h.nd.sublist (List.drop_sublist k ws), fun w hw => h.nam w (List.mem_of_mem_drop hw)⟩
def cutL {α : Type} (xs : List α) (lo hi : Option Int) : List α := (xs.drop (HT.sIx xs.length 0 lo)).take (HT.sIx xs.length xs.length hi - HT.sIx xs.length 0 lo)
theorem BagOk.take {ps : Bag} (h : BagOk ps) (k : Nat) : BagOk (ps.take k) := ⟨h.asc.sublist (List.take_sublist k ps), fun p hp => h.nam p (List.mem_of_mem_take hp), fun p hp => h.pos p (List.mem_of_mem_take hp)⟩
theorem BagOk.drop {ps : Bag} (h : BagOk ps) (k : Nat) : BagOk (ps.drop k) := ⟨h.asc.sublist (List.drop_sublist k ps), fun p hp => h.nam p (List.mem_of_mem_drop hp), fun p hp => h.pos p (List.mem_of_mem_drop hp)⟩
end TP
namespace TP
open PySem PySem.Spec PyProof.Rows L2
section
variable {K : PySem.W.Frag} {σ : L2.St} {H : Hp} {Q : VK} {t tk : TA} {a : Addr}
theorem w_ckw {r : List V → List V → Hp → VK → Prop} (h : t σ H fun vs H1 => tk σ H1 fun zs H2 => r vs zs H2 Q) : tCKw r t tk σ H Q := h
instance i_w_ckw {r : List V → List V → Hp → VK → Prop} : StepX (tCKw r t tk σ H Q) (t σ H fun vs H1 => tk σ H1 fun zs H2 => r vs zs H2 Q) := ⟨fun h => w_ckw h⟩
end
theorem tab_ok {ps : Bag} (h : ∀ p ∈ ps, 1 ≤ p.2) : TabOk (tabOf ps) := by
  have nd : (keys (tabOf ps)).Nodup := by show ((tabOf ps).map (·.1)).Nodup; rw [tabOf_keys]; exact namesOf_nodup _
  refine ⟨nd, fun p hp => ?_⟩
  have e := getT_mem nd hp
  rw [getT_tabOf] at e
  have hk : p.1 ∈ keys (tabOf ps) := List.mem_map.mpr ⟨p, hp, rfl⟩
  have hk2 : p.1 ∈ ps.map (·.1) := by
    have : p.1 ∈ (tabOf ps).map (·.1) := hk
    rw [tabOf_keys] at this
    exact namesOf_mem.mp this
  obtain ⟨q, hq, e2⟩ := List.mem_map.mp hk2
  have := cnt_some h hq
  rw [e2] at this
  omega
end TP
namespace TP
open PySem PySem.Spec PyProof.Rows L2
section
variable {K : PySem.W.Frag} {H : Hp} {Q : VK} {a l : Addr} {x : Str} {ws : List Str}
theorem w_intB {k : Bool} (h : Q (.int (if k then 1 else 0)) H) : rInt1 [.bl k] H Q := .inr ⟨k, rfl, h⟩
instance i_w_intB {k : Bool} : StepX (rInt1 [.bl k] H Q) (Q (.int (if k then 1 else 0)) H) := ⟨fun h => w_intB h⟩
end
end TP
namespace TP
open PySem PySem.Spec PyProof.Rows L2
def FmtC (x : V) (H : Hp) (Q : VK) : Prop := (∃ y : Str, x = .str y ∧ y.length ≤ sizeLine ∧ Q (.str y) H) ∨ ∃ i : Int, x = .int i ∧ i.natAbs.log2 < 1920 ∧ Q (.str (toString i)) H
def JsC (ts : List TE) (acc : Str) (σ : L2.St) (Q : Str → Hp → Prop) (x : V) (H : Hp) : Prop := ∃ y : Str, x = .str y ∧ (acc ++ y).length ≤ sizeLine ∧ tJs ts (acc ++ y) σ H Q
def OrC (K : PySem.W.Frag) (tb : TE) (σ : L2.St) (Q : VK) (x : V) (H : Hp) : Prop := ∃ k, TruV K x H k ∧ if k = true then Q x H else tb σ H Q
def AndC (K : PySem.W.Frag) (tb : TE) (σ : L2.St) (Q : VK) (x : V) (H : Hp) : Prop := ∃ k, TruV K x H k ∧ if k = true then tb σ H Q else Q x H
section
variable {K : PySem.W.Frag} {σ : L2.St} {H : Hp} {Q : VK} {QS : Str → Hp → Prop} {te ta tb : TE} {ts : List TE} {acc y : Str} {i : Int}
theorem w_neBl {a b : Bool} (h : Q (.bl (!decide (a = b))) H) : rNe (.bl a) (.bl b) H Q := by
  refine ⟨rfl, ?_⟩
  have e : decide (V.bl a = V.bl b) = decide (a = b) := by
    by_cases z : a = b
    · subst z; simp
    · rw [decide_eq_false z, decide_eq_false fun q => z (V.bl.inj q)]
  rw [e]; exact h
instance i_w_neBl {a b : Bool} : StepX (rNe (.bl a) (.bl b) H Q) (Q (.bl (!decide (a = b))) H) := ⟨fun h => w_neBl h⟩
theorem w_eqBl {a b : Bool} (h : Q (.bl (decide (a = b))) H) : rEq (.bl a) (.bl b) H Q := by
  refine ⟨rfl, ?_⟩
  have e : decide (V.bl a = V.bl b) = decide (a = b) := by
    by_cases z : a = b
    · subst z; simp
    · rw [decide_eq_false z, decide_eq_false fun q => z (V.bl.inj q)]
  rw [e]; exact h
instance i_w_eqBl {a b : Bool} : StepX (rEq (.bl a) (.bl b) H Q) (Q (.bl (decide (a = b))) H) := ⟨fun h => w_eqBl h⟩
theorem w_fmt (h : te σ H fun x H1 => FmtC x H1 Q) : tFmt te σ H Q := h
instance i_w_fmt : StepX (tFmt te σ H Q) (te σ H fun x H1 => FmtC x H1 Q) := ⟨fun h => w_fmt h⟩
theorem w_jcons (h : te σ H fun x H1 => JsC ts acc σ QS x H1) : tJs (te :: ts) acc σ H QS := h
instance i_w_jcons : StepX (tJs (te :: ts) acc σ H QS) (te σ H fun x H1 => JsC ts acc σ QS x H1) := ⟨fun h => w_jcons h⟩
theorem w_jnil (h : QS acc H) : tJs [] acc σ H QS := h
instance i_w_jnil : StepX (tJs [] acc σ H QS) (QS acc H) := ⟨fun h => w_jnil h⟩
theorem w_orT (h : ta σ H fun x H1 => OrC K tb σ Q x H1) : tOrT K ta tb σ H Q := h
instance i_w_orT : StepX (tOrT K ta tb σ H Q) (ta σ H fun x H1 => OrC K tb σ Q x H1) := ⟨fun h => w_orT h⟩
theorem w_andT (h : ta σ H fun x H1 => AndC K tb σ Q x H1) : tAndT K ta tb σ H Q := h
instance i_w_andT : StepX (tAndT K ta tb σ H Q) (ta σ H fun x H1 => AndC K tb σ Q x H1) := ⟨fun h => w_andT h⟩
end
end TP
namespace TP
open PySem PySem.Spec PyProof.Rows L2
section
variable {K : PySem.W.Frag} {H : Hp} {Q : VK} {a : Addr}
def DelC (x y : V) (H : Hp) (k : Hp → Prop) : Prop := ∃ a kvs kk, x = .ref a ∧ H a = some (.dK kvs) ∧ y = kV kk ∧ (valV kvs kk).isSome = true ∧ k (upd H a (.dK (dropK kvs kk)))
theorem w_ddel {td ty : TE} {σ : L2.St} {De : Ends} (h : td σ H fun x H1 => ty σ H1 fun y H2 => DelC x y H2 fun H3 => De.nx σ H3) : sDDel td ty De σ H := h
instance i_w_ddel {td ty : TE} {σ : L2.St} {De : Ends} : StepX (sDDel td ty De σ H) (td σ H fun x H1 => ty σ H1 fun y H2 => DelC x y H2 fun H3 => De.nx σ H3) := ⟨fun h => w_ddel h⟩
def AugC (x y : V) (tv : TE) (σ : L2.St) (rd : V → V → Hp → VK → Prop) (H : Hp) (k : Hp → Prop) : Prop := ∃ a v, x = .ref a ∧ DGet H a y (some v) ∧ tv σ H fun y2 H3 => rd v y2 H3 fun z H4 => ∃ H5, DPut H4 a y z H5 ∧ k H5
theorem w_daug {td ty tv : TE} {rd : V → V → Hp → VK → Prop} {σ : L2.St} {De : Ends} (h : td σ H fun x H1 => ty σ H1 fun y H2 => AugC x y tv σ rd H2 fun H5 => De.nx σ H5) : sDAug td ty tv rd De σ H := h
instance i_w_daug {td ty tv : TE} {rd : V → V → Hp → VK → Prop} {σ : L2.St} {De : Ends} : StepX (sDAug td ty tv rd De σ H) (td σ H fun x H1 => ty σ H1 fun y H2 => AugC x y tv σ rd H2 fun H5 => De.nx σ H5) := ⟨fun h => w_daug h⟩
end
end TP
namespace TP
open PySem PySem.Spec PyProof.Rows L2
theorem w_dpop1 {td ty : TE} {σ : L2.St} {H : Hp} {Q : VK} (h : td σ H fun x H1 => ∃ a, x = .ref a ∧ IsD H1 a ∧ ty σ H1 fun y H2 => ∃ kvs k v, H2 a = some (.dK kvs) ∧ y = kV k ∧ valV kvs k = some v ∧ Q v (upd H2 a (.dK (dropK kvs k)))) : tDPop1 td ty σ H Q := h
instance i_w_dpop1 {td ty : TE} {σ : L2.St} {H : Hp} {Q : VK} : StepX (tDPop1 td ty σ H Q) (td σ H fun x H1 => ∃ a, x = .ref a ∧ IsD H1 a ∧ ty σ H1 fun y H2 => ∃ kvs k v, H2 a = some (.dK kvs) ∧ y = kV k ∧ valV kvs k = some v ∧ Q v (upd H2 a (.dK (dropK kvs k)))) := ⟨fun h => w_dpop1 h⟩
end TP
namespace TP
open PySem PySem.Spec PyProof.Rows L2
def RevC (K : PySem.W.Frag) (x : V) (H : Hp) (Q : VK) : Prop := ∃ a xs, x = .ref a ∧ SqL K H a xs ∧ ∀ p, H p = none → Q (.ref p) (upd H p (.lst xs.reverse))
theorem w_revL {K : PySem.W.Frag} {te : TE} {σ : L2.St} {H : Hp} {Q : VK} (h : te σ H fun x H1 => RevC K x H1 Q) : tRevL K te σ H Q := h
instance i_w_revL {K : PySem.W.Frag} {te : TE} {σ : L2.St} {H : Hp} {Q : VK} : StepX (tRevL K te σ H Q) (te σ H fun x H1 => RevC K x H1 Q) := ⟨fun h => w_revL h⟩
end TP
namespace TP
open PySem PySem.Spec PyProof.Rows L2
theorem flying_keeps {B h h' : Heap} {l : List Env} {e : Addr} {Z : Obj → Prop} (x : HandSPX.FlyingZ B l e Z h) (k : ∀ b o, h.get? b = some o → h'.get? b = some o) : HandSPX.FlyingZ B l e Z h' := by
  obtain ⟨a, b, c, oe, vs, T, oT, ts, e1, e2, e3, e4, e5, e6, e7, e8, e9⟩ := x
  exact ⟨fun q o z => k _ _ (a q o z), b, c.of_keeps fun b o z _ => ⟨o, k _ _ z, rfl⟩, oe, vs, T, oT, ts, k _ _ e1, e2, e3, e4, e5, e6, k _ _ e7, e8, e9⟩
def wAs3 (K : PySem.W.Frag) (c1 c2 c3 : Value) (i : Nat) (ts : Addr → Value → Option Addr → TS) (Wout : WX) (D : Ends) : WX := fun cls d σ H =>
  ∃ b, PySem.W.exmAny K cls [c1, c2, c3] = some b ∧ (b = true → ∀ a, H a = none → ts a cls d { nx := fun σ' H' => D.nx (σ'.set i none) H', rt := D.rt, bk := fun σ' H' => D.bk (σ'.set i none) H', ct := fun σ' H' => D.ct (σ'.set i none) H' } (σ.set i (some (.ref a))) H) ∧
    (b = false → Wout cls d σ H)
section
variable {X : Cx} {x1 x2 x3 n : Str} {c1 c2 c3 : Value} {i kk : Nat} {body suite : List Stmt} {b₀ : Stmt} {np1 np2 np3 tpos pos pos' : Pos} {tb : WX → TS} {ts : Addr → Value → Option Addr → TS} {Wout : WX}
theorem ps_try_as3 (hs : X.stack = X.env :: X.outer) (hf : X.env.frame = some X.env.locals) (hN : X.N.Nodup) (hi : X.N[i]? = some n) (hln : X.env.kindOf n = some .local) (hc1 : Names X x1 c1) (hc2 : Names X x2 c2) (hc3 : Names X x3 c3) (tk : Takes X Wout)
    (hb : ∀ (W : WX) (pn : List (Addr × Obj)) (xe : Value → Shared → Prop), Takes (X.tr pn xe) W → PassesOwn (model X.prog X.w) X.A X.env xe → PSs (X.tr pn xe) body (tb W))
    (hsu : ∀ (a : Addr) (oe : Obj) (cls : Value) (d : Option Addr) (pn : List (Addr × Obj)), Zc cls d oe → (∃ vs, oe.data = .fields vs) → PSs (X.suite a ((a, oe) :: pn)) (b₀ :: suite) (ts a cls d)) :
    PS X (.Try body [.ExceptHandler (some (.Tuple [.Name x1 np1, .Name x2 np2, .Name x3 np3] kk tpos)) (some n) (b₀ :: suite) pos'] [] [] pos) (fun D σ H => tb (wAs3 X.K c1 c2 c3 i ts Wout D) D σ H) := by
  refine ⟨fun pins s σ H D I h => ?_⟩
  have ok := I.ok
  have hfr : X.A.frames = some (X.env :: X.outer) := by rw [ok.frames, hs]
  have hloc : Loc X.env.scope n := .inl hln
  refine wpAny_Try_except ?_
  refine wpAny_mono ((hb (wAs3 X.K c1 c2 c3 i ts Wout D) (X.pn ++ pins) (fun e s₁ => wpAny (model X.prog X.w) X.A (noteFrame e X.env) (fun _ s₂ => wpAny (model X.prog X.w) X.A (setFlight e none) (fun _ s₃ =>
    wpAny (model X.prog X.w) X.A (handleBy e X.env [.ExceptHandler (some (.Tuple [.Name x1 np1, .Name x2 np2, .Name x3 np3] kk tpos)) (some n) (b₀ :: suite) pos']) (SP X pins D) X.xe s₃) X.xe s₂) X.xe s₁) (fun u s' xx => ?_) PassesOwn.looking).run [] s σ H D (I.toTry _) h) (fun f s1 hsp => ?_) (fun e s1 he => he)
  · obtain ⟨a, B, sI, pins', σ', H', cls, d, rfl, J', nb, up, sky, na, os, ag, b, hb1, hyes, hno⟩ := xx
    have J : Inv X pins σ' H' sI := J'.ofTry ok
    have sky' : Sky B (X.env :: X.outer) a (Zc cls d) X.env.locals s'.heap := by rw [← hs]; exact sky
    show wpAny (model X.prog X.w) X.A (noteFrame (.ref a) X.env) _ _ _
    refine Sky.land Zc.steady hfr hf sky' fun h3 fl3 up3 => ?_
    have J3 : Inv X pins σ' H' { s' with heap := h3 } := J.landed nb fl3.1 (up.trans up3) os ag
    obtain ⟨oe3, vs3, he3, hz3, hd3⟩ := fl3.there
    have notFr : ∀ {h : Heap} {o : Obj} {vs : Array Value}, h.FunFrames B (X.env :: X.outer) → h.get? a = some o → o.data = .fields vs → a ∉ frs (X.env :: X.outer) := fun {h o vs} ff e dd hm => by
      obtain ⟨_, o', e', hnf⟩ := ff.mem hm
      rw [e] at e'; cases e'
      exact hnf _ dd
    have nfr := notFr fl3.2.2.1 he3 hd3
    have nL : a ≠ X.env.locals := fun z => nfr (List.mem_filterMap.mpr ⟨X.env, List.mem_cons_self, by rw [hf, z]⟩)
    have nF : a ∉ X.fs := fun hm => by
      obtain ⟨e, he, q⟩ := List.mem_filterMap.mp hm
      exact nfr (List.mem_filterMap.mpr ⟨e, List.mem_cons_of_mem _ he, q⟩)
    have S3 := J3.suite he3 hd3 na nL nF
    refine wpAny_handleBy_cons (codeAny_handlers_test ?_) (by intro q; cases q)
    have LT : PySem.W.Looks (model X.prog X.w) h3 (typeOf (.ref a)) cls := fun A Q E s k q => wpAny_typeOf_ref (k _ _ he3) (by rw [hz3.1]; exact q)
    have test : ∀ {x : Str} {c : Value} {np : Pos}, Names X x c → ∀ {Q : Value → Shared → Prop} {E : Value → Shared → Prop}, Q c { s' with heap := h3 } → wpAny (model X.prog X.w) (X.A.mark (some (.ref a))) (eval (.Name x np) X.env) Q E { s' with heap := h3 } := fun {x c np} hc {Q E} q => by
      obtain ⟨hg, hdbg, hm | ⟨hm, hv, hnn⟩⟩ := hc
      · exact ld_glob (X := X.suite a ((a, oe3) :: (X.pn ++ pins))) S3 hg hm q hdbg
      · exact ld_blt (X := X.suite a ((a, oe3) :: (X.pn ++ pins))) S3 hg hm hv q hnn hdbg
    refine wpAny_Tuple ?_
    refine wpAny_items_cons (test hc1 ?_)
    refine wpAny_items_cons (test hc2 ?_)
    refine wpAny_items_cons (test hc3 ?_)
    refine wpAny_items_nil ⟨by size_fits, ?_⟩
    have kp : ∀ q o, h3.get? q = some o → (h3.push { cls := .type "tuple", data := .seq [c1, c2, c3].toArray }).get? q = some o := fun _ _ z => Heap.get?_push_of_some _ z
    refine (PySem.W.exm_tup3 (M := model X.prog X.w) ((J3.kIn).keeps kp) (LT.keeps kp) (Heap.get?_push_size h3 rfl) hb1).here ?_
    have flT := flying_keeps fl3 kp
    have upT := up3.trans (Heap.UpToSlots.of_keeps kp)
    generalize h3.push { cls := .type "tuple", data := .seq [c1, c2, c3].toArray } = hT at flT upT
    cases b with
    | true =>
      refine codeAny_handlers_suite_as ?_
      refine HandSPX.lands_againZ flT fun h4 fl4 up4 => ?_
      have J4 : Inv X pins σ' H' { s' with heap := h4 } := J.landed nb fl4.1 ((up.trans upT).trans up4) os ag
      obtain ⟨oe4, vs4, he4, hz4, hd4⟩ := fl4.there
      have S4 := J4.suite he4 hd4 na nL nF
      refine store_ok (X := X.suite a ((a, oe4) :: (X.pn ++ pins))) (v := .ref a) S4 hN hi hloc rfl (fun s5 S5 => ?_) (.inr hln)
      refine wpAny_mono ((hsu a oe4 cls d (X.pn ++ pins) hz4 ⟨_, hd4⟩).run [] s5 _ H' _ S5 (hyes rfl a na)) (fun f s6 hsp => ?_) (fun _ _ z => False.elim z)
      have end_ : ∀ {σ6 : L2.St} {H6 : Hp} {Q : Shared → Prop}, Inv (X.suite a ((a, oe4) :: (X.pn ++ pins))) [] σ6 H6 s6 → (∀ s7, Inv X pins (σ6.set i none) H6 s7 → Q s7) →
          wpAny (model X.prog X.w) X.A (do bindName X.env n .none; unbindBehindTheSuite X.env n pos') (fun _ s7 => Q s7) X.xe s6 := fun {σ6 H6 Q} S6 hq => gone_ok (S6.unsuite ok) hN hi hln hq
      cases f with
      | next =>
        obtain ⟨σ6, H6, S6, q6⟩ := hsp
        exact end_ S6 fun s7 J7 => ⟨_, _, J7, q6⟩
      | brk =>
        obtain ⟨σ6, H6, S6, q6⟩ := hsp
        exact end_ S6 fun s7 J7 => ⟨_, _, J7, q6⟩
      | cont =>
        obtain ⟨σ6, H6, S6, q6⟩ := hsp
        exact end_ S6 fun s7 J7 => ⟨_, _, J7, q6⟩
      | ret u =>
        obtain ⟨v6, σ6, H6, S6, r6, q6⟩ := hsp
        exact end_ S6 fun s7 J7 => ⟨_, _, _, J7, r6, q6⟩
    | false =>
      show wpAny _ X.A (handleBy (.ref a) X.env []) _ _ _
      refine wpAny_handleBy_nil ?_
      obtain ⟨k1, k2, k3, oe, vs, T, oT, ts', he, hz, hd, h1, hr⟩ := id flT
      unfold PySem.passOn
      refine wpAny_bind (wpAny_field he hd h1 ?_)
      rw [if_neg (show ¬ ((Value.ref T == Value.none) = true) from by simp)]
      have fin : wpAny (model X.prog X.w) X.A (setFlight (.ref a) X.env.frame) (fun _ s4 => wpAny (model X.prog X.w) X.A (throw (.ref a) : Sem Flow) (SP X pins D) X.xe s4) X.xe { s' with heap := hT } := by
        rw [hf]
        refine HandSPX.setFlight_upZ flT fun h4 hh4 up4 => wpAny_throw (tk _ _ ?_)
        exact ⟨a, B, sI, pins, σ', H', cls, d, rfl, J, nb, (up.trans upT).trans up4, .inr (.inr (by rw [hs]; exact hh4)), na, os, ag, hno rfl⟩
      first
        | exact wpAny_bind (wpAny_pure (wpAny_bind fin))
        | exact wpAny_bind fin
  · cases f with
    | next =>
      obtain ⟨σ', H', J', q⟩ := hsp
      exact wpAny_execs_nil ⟨σ', H', J'.ofTry ok, q⟩
    | brk =>
      obtain ⟨σ', H', J', q⟩ := hsp
      exact ⟨σ', H', J'.ofTry ok, q⟩
    | cont =>
      obtain ⟨σ', H', J', q⟩ := hsp
      exact ⟨σ', H', J'.ofTry ok, q⟩
    | ret u =>
      obtain ⟨v, σ', H', J', r, q⟩ := hsp
      exact ⟨v, σ', H', J'.ofTry ok, r, q⟩
end
end TP
namespace TPX
open PySem PySem.W PySem.Spec PySem.Calls PyProof.Rows
section
variable {prog : Program} {w : World} {A : Around} {E : Value → Shared → Prop} {s : Shared} {K : Frag} {x D : Addr} {ox : Obj} {od : Option Obj}
theorem findObj_dataA {C : Addr} {name : Str} {a g : Value} (hc : (clsIn K C).isSome = true) (ha : findIn K (.ref C) name = some (some a)) (hg : specialIn K a "__get__" = some (some g)) (ht : takesIn K a = some true) : findObj K C od name = some (.bind g a) := by
  obtain ⟨cd, hc⟩ := Option.isSome_iff_exists.mp hc
  unfold findObj
  rw [hc, Option.bind_some, ha, Option.bind_some]
  simp [hg, ht]
theorem kin_classA {Q : Option Value → Shared → Prop} (hga : findIn K (.ref D) "__getattribute__" = some (some (.builtin "BaseException.__getattribute__"))) (hgt : findIn K (.ref D) "__getattr__" = some none) (hsub : subIn K (.ref D) (.type "BaseException") = some true)
    (hdct : hasDictIn K D = true) (ha : findIn K (.ref D) "__class__" = some (some (.builtin "object.__class__")))
    (hn : specialIn K (.builtin "object.__class__") "__get__" = some (some (.builtin "getset_descriptor.__get__"))) (htk : takesIn K (.builtin "object.__class__") = some true) (hm : mroIn K D (.type "object") = some true)
    (X : K.In s.heap) (I : InstAt s.heap x ox D od) (h : Q (some (.ref D)) { s with toks := s.toks + 1 }) : wpAny (model prog w) A (getAttr? (.ref x) "__class__") Q E s := by
  have hf : findObj K D od "__class__" = some (.bind (.builtin "getset_descriptor.__get__") (.builtin "object.__class__")) := findObj_dataA (by obtain ⟨cd, hc, _⟩ := any_some hdct; rw [hc]; rfl) ha hn htk
  obtain ⟨hp, g, d, t, os⟩ := s
  have L0 := I.type (M := model prog w)
  have L1 := looks_findIn (M := model prog w) X hga
  have L2 := looks_findIn (M := model prog w) X hgt
  have L3 := looks_find (M := model prog w) X I hf
  have sub : Looks (model prog w) hp (isInstance (.ref x) (.type "BaseException")) true := L0.andThen (looks_subIn X hsub)
  have hx0 : (false && onTheHeap (Value.builtin "BaseException.__getattribute__")) = false := rfl
  have hx2 : (Value.builtin "BaseException.__getattribute__" == Value.builtin "object.__getattribute__") = false := by decide +kernel
  have hx1 : (onTheHeap (Value.ref D) && Value.builtin "BaseException.__getattribute__" == Value.builtin "object.__getattribute__") = false := by rw [hx2]; rfl
  unfold getAttr? getAttrBy? getAttrBy
  refine wpAny_bind (wpAny_mkText (wpAny_bind (wpAny_attempt (wpAny_holding (wpAny_bind (L0.at (wpAny_bind (L1.at ?_))))))))
  show wpAny _ _ (if (onTheHeap (Value.ref D) && Value.builtin "BaseException.__getattribute__" == Value.builtin "object.__getattribute__") = true then _ else _) _ _ _
  rw [hx1, if_neg Bool.false_ne_true]
  unfold getAttrByItsOwn hookBefore
  refine wpAny_bind ?_
  rw [if_pos (show onTheHeap (Value.ref D) = true from rfl)]
  refine L2.at ?_
  refine wpAny_bind (wpAny_attempt (wpAny_holding ?_))
  unfold callGetattribute
  rw [hx0, if_neg Bool.false_ne_true]
  unfold boundAndCalled
  rw [PySem.F.excAttr_ValueError.ga.bind (.ref x)]
  refine wpAny_bind (wpAny_pure ?_)
  show wpAny _ _ (call (.builtin "BaseException.__getattribute__") [.ref x, .str "__class__" t]) _ _ _
  refine wpAny_call (codeAny_call_builtin PySem.F.excAttr_ValueError.ga.plain PySem.F.entry_bexc_ga ?_)
  refine @check_slot (model prog w) _ _ ⟨hp, g, d, t + 1, os⟩ "BaseException.__getattribute__" "BaseException" "__getattribute__" (.ref x) [.str "__class__" t] [] _ (by decide +kernel) (by decide +kernel) sub (PySem.F.args_bexc_ga (.ref x) (.str "__class__" t)) ?_
  unfold Builtin.«object.__getattribute__»
  refine wpAny_bind (wpAny_of_eq (a := ((Value.ref x : Value), [Value.str "__class__" t])) (by first | rfl | (simp only [slotArgs]; rfl)) ?_)
  refine wpAny_bind (wpAny_pure (wpAny_bind (L0.at (wpAny_bind (L3.at ?_)))))
  show wpAny _ _ (holding [Value.builtin "object.__class__"] (call (.builtin "getset_descriptor.__get__") [.builtin "object.__class__", .ref x, .ref D]) >>= ret) _ _ _
  refine wpAny_bind (wpAny_holding (wpAny_call (class_get (s := ⟨hp, g, d, t + 1, os⟩) (ox := ox) (od := od) X I hm ?_)))
  refine wpAny_pure ?_
  show wpAny _ _ (handedOut (.ref D)) _ _ _
  rw [handedOut_of (v := .ref D) rfl]
  first
    | exact wpAny_pure (wpAny_pure h)
    | exact wpAny_pure h
    | exact wpAny_pure (wpAny_bind (wpAny_pure (wpAny_pure h)))
theorem kitx_excA (hga : findIn K (.ref D) "__getattribute__" = some (some (.builtin "BaseException.__getattribute__"))) (hgt : findIn K (.ref D) "__getattr__" = some none) (hsub : subIn K (.ref D) (.type "BaseException") = some true) (hdct : hasDictIn K D = true) (ha : findIn K (.ref D) "__class__" = some (some (.builtin "object.__class__")))
    (hn : specialIn K (.builtin "object.__class__") "__get__" = some (some (.builtin "getset_descriptor.__get__"))) (htk : takesIn K (.builtin "object.__class__") = some true) (hm : mroIn K D (.type "object") = some true) :
    KitX K (.ref x) (.ref D) (fun h => InstAt h x ox D od) where
  ty := fun _ _ _ I => I.type
  it := fun _ _ X _ => by
    obtain ⟨cdD, hcD, _⟩ := any_some hdct
    unfold clsIn at hcD
    split at hcD
    · rename_i c' d' cd' sl' ho
      intro A' Q' E' s' k q
      unfold isType loadHead
      exact wpAny_bind (wpAny_loadPart (k _ _ (X _ _ ho)) (wpAny_pure q))
    · cases hcD
  ne := fun h tp dd its n sl X htp => by
    obtain ⟨cdD, hcD, _⟩ := any_some hdct
    refine Bool.eq_false_iff.mpr fun q => ?_
    have e : D = tp := Value.ref.inj (beq_iff_eq.mp q)
    subst e
    unfold clsIn at hcD
    split at hcD
    · rename_i c' d' cd' sl' ho
      have z := (X _ _ ho).symm.trans htp
      cases z
    · cases hcD
  ca := fun X I k => kin_classA hga hgt hsub hdct ha hn htk hm X I k
end
end TPX
namespace TP
open PySem PySem.Spec PyProof.Rows L2
structure Held (X : Cx) (p : Addr × Obj) (D : Addr) (dd : Option Addr) : Prop where
  pin : p ∈ X.pn
  z : Zc (.ref D) dd p.2
  f : ∃ vs, p.2.data = .fields vs
def DxO (H : Hp) (dd : Option Addr) : Prop := ∀ d, dd = some d → ∃ fs, H d = some (.xd fs)
theorem Held.inst {X : Cx} {p : Addr × Obj} {D : Addr} {dd : Option Addr} {pins : List (Addr × Obj)} {σ : L2.St} {H : Hp} {s : Shared} (h : Held X p D dd) (I : Inv X pins σ H s) (hd : DxO H dd) :
    ∃ od : Option Obj, PySem.W.InstAt s.heap p.1 p.2 D od := by
  obtain ⟨ha, _⟩ := I.pin p (List.mem_append_left _ h.pin)
  obtain ⟨vs, hv⟩ := h.f
  have hz := h.z.2
  cases dd with
  | none => exact ⟨none, ha, h.z.1, by unfold PySem.W.notCls; rw [hv] <;> rfl, by rw [hz]; trivial⟩
  | some d =>
    obtain ⟨fs, hd⟩ := hd d rfl
    have hx : ObjOk X.prog X.w H s.heap d (.xd fs) := I.hok d _ hd
    obtain ⟨mA, hns, hr⟩ := hx
    obtain ⟨od, ho, hl⟩ := lookIn_ns hns
    exact ⟨some od, ha, h.z.1, by unfold PySem.W.notCls; rw [hv] <;> rfl, by rw [hz]; exact ho⟩
def rIsP (K : PySem.W.Frag) (a D : Addr) (dd : Option Addr) : List V → Hp → VK → Prop := fun xs H Q => ∃ (c : V) (cv : Value) (b : Bool), xs = [.ref a, c] ∧ ClsV c cv ∧ DxO H dd ∧ PySem.W.kitOne K (.ref D) cv = some b ∧ Q (.bl b) H
def rIsPT (K : PySem.W.Frag) (a D : Addr) (dd : Option Addr) : List V → Hp → VK → Prop := fun xs H Q => ∃ (tp : Addr) (cs : List V) (us : List Value) (b : Bool), xs = [.ref a, .ref tp] ∧ H tp = some (.tup cs) ∧ Paired ClsV cs us ∧ DxO H dd ∧ PySem.W.kitAny K (.ref D) us = some b ∧ Q (.bl b) H
theorem call_isP {X : Cx} {p : Addr × Obj} {D : Addr} {dd : Option Addr} (C : ExcC X.K D) (hh : Held X p D dd) : CallR X (.builtin "isinstance") (rIsP X.K p.1 D dd) := by
  intro pins s σ H xs us Q I r h
  obtain ⟨c, cv, b, rfl, hcv, hd, e, q⟩ := h
  obtain ⟨u1, u2, rfl, r1, r2⟩ := vals2 r
  have e2 := hcv.eq r2
  subst e2
  cases (show u1 = Value.ref p.1 from r1)
  obtain ⟨od, J⟩ := hh.inst I hd
  exact PySem.W.kia_one (TPX.kitx_excA C.hg C.hk C.hs C.hd C.ha C.hn C.ht C.hm) I.kIn J e (fun z => nomatch z) fun tk => ⟨.bl b, H, I.tok tk, rfl, q⟩
theorem call_isPT {X : Cx} {p : Addr × Obj} {D : Addr} {dd : Option Addr} (C : ExcC X.K D) (hh : Held X p D dd) : CallR X (.builtin "isinstance") (rIsPT X.K p.1 D dd) := by
  intro pins s σ H xs us Q I r h
  obtain ⟨tp, cs, ws, b, rfl, hT, k, hd, e, q⟩ := h
  obtain ⟨u1, u2, rfl, r1, r2⟩ := vals2 r
  cases (show u1 = Value.ref p.1 from r1)
  cases (show u2 = Value.ref tp from r2)
  obtain ⟨od, J⟩ := hh.inst I hd
  obtain ⟨_, its, rv, o, h1, h2, n, h3⟩ := (show ObjOk X.prog X.w H s.heap tp (.tup cs) from I.hok tp _ hT)
  have e3 := ClsV.all k rv
  subst e3
  obtain ⟨oc, od', dt, sl⟩ := o
  simp only at h2 h3
  subst h2 h3
  exact PySem.W.kia_tup (TPX.kitx_excA C.hg C.hk C.hs C.hd C.ha C.hn C.ht C.hm) I.kIn J h1 e (fun z => nomatch z) fun tk => ⟨.bl b, H, I.tok tk, rfl, q⟩
def tXp (a : Addr) (do_ : Option Addr) (f : Str) (te : TE) : TE := fun σ H Q => te σ H fun x H1 => x = .ref a ∧ ∃ (dd : Addr) (fs : List (Str × V)) (v : V), do_ = some dd ∧ H1 dd = some (.xd fs) ∧ fs.lookup f = some v ∧ Q v H1
theorem pe_xp {X : Cx} {p : Addr × Obj} {D : Addr} {do_ : Option Addr} {e : Expr} {te : TE} {pos : Pos} {n : Str} (T : XfC X.K D) (hno : PySem.W.findIn X.K (.ref D) n = some none) (hh : Held X p D do_) (he : PE X e te) (hb : attributeBase e n X.env (eval e X.env) = eval e X.env := by rfl) :
    PE X (.Attribute e n pos) (tXp p.1 do_ n te) := by
  refine ⟨fun pins s σ H Q I h => ?_⟩
  refine attr_of hb (thn (he.run pins s σ H _ I h) fun u s1 hh' => ?_)
  obtain ⟨x, H1, I1, rx, ex, dd, fs, v, edo, ea, l, q⟩ := hh'
  subst edo
  subst ex
  obtain rfl : u = Value.ref p.1 := rx
  obtain ⟨ha, _⟩ := I1.pin p (List.mem_append_left _ hh.pin)
  obtain ⟨vs, hd⟩ := hh.f
  have hx : ObjOk X.prog X.w H1 s1.heap dd (.xd fs) := I1.hok dd _ ea
  obtain ⟨mA, hns, hr⟩ := hx
  obtain ⟨od, ho, hl⟩ := lookIn_ns hns
  obtain ⟨u, hu, ru⟩ := RelO.some_of (v := v) (o := mA n) (by rw [← l]; exact hr n)
  have J : PySem.W.InstAt s1.heap p.1 p.2 D (some od) := ⟨ha, hh.z.1, by unfold PySem.W.notCls; rw [hd] <;> rfl, by rw [hh.z.2]; exact ho⟩
  exact HandSPX.exc_get I1.kIn J T.ga T.gg T.exC (PySem.W.findObj_own T.hdC hno rfl (by rw [hl, hu])) (handed_of ru) ⟨v, H1, I1.tok _, ru, q⟩
abbrev RoomH := L2H.RoomH
abbrev PinOk := L2H.PinOk
structure FnP (P : Program) (w : World) (K : PySem.W.Frag) (mg : Str → Option Value) (base : Heap) (k : Nat) (f : Addr) (fd : FuncData) (ps : List Str) (sp : Addr × Obj → Sp) : Prop where
  len : ∀ p vs H Q E, sp p vs H Q E → vs.length = ps.length
  run : ∀ (A : Around) (outer : List Env) (s : Shared) (H : Hp) (args : Args) (us : List Value) (vs : List V) (Q : VK) (E : XK) (p : Addr × Obj), RoomH k A → A.guards = some [] → PinOk outer H s p →
    Env0 P w K mg base A outer s H → BindsTo s fd args (ps.zip us) → Vals vs us → sp p vs H Q E → codeAny (model P w) A (.call (.ref f) args) (CR CX0 outer P w H s Q E) s
theorem fnP_of {P : Program} {w : World} {K : PySem.W.Frag} {mg : Str → Option Value} {base : Heap} {k : Nat} {f : Addr} {x qual : Str} {params : Arguments} {body : List Stmt} {scope : Scope} {dvs : List V} {kws : List (Str × V)} {fd : FuncData} {N ps : List Str} {sp : Addr × Obj → Sp}
    (F : FunD K x qual params body scope dvs kws f fd) (S : FnScope N ps scope) (len : ∀ p vs H Q E, sp p vs H Q E → vs.length = ps.length)
    (hbody : ∀ (cdv : Value) (A : Around) (outer : List Env) (s : Shared) (H : Hp) (vs : List V) (Q : VK) (E : XK) (p : Addr × Obj), RoomH k (A.deeper (envOfC qual scope s.heap.objs.size f cdv)) → (A.deeper (envOfC qual scope s.heap.objs.size f cdv)).guards = some [] → sp p vs H Q E →
      ∃ t, PSs (L2H.cxH CX0 P w K mg base N qual scope f cdv A outer s H E p) body t ∧ t { nx := fun _ H' => Q .non H', rt := Q } (start N vs) H) :
    FnP P w K mg base (k + 1) f fd ps sp := by
  obtain ⟨oc, od, dV, kV, doc, pm, an, cdv, ct, osl, rfl, lk, hcd, _, _⟩ := F.ex
  refine ⟨len, fun A outer s H args us vs Q E p hr hg hpin e0 hb r hsp => ?_⟩
  have hl := len _ _ _ _ _ hsp
  have kx : K.In s.heap := e0.mod.kin.keeps fun b o e => (e0.bs b o e).1
  have nl : s.heap.NoLimit := e0.mod.nolimit.keeps fun b o e => (e0.bs b o e).1
  refine codeAny_call_function hr.depth (kx _ _ lk) rfl S.co S.gen rfl (PySem.W.codeRec_of kx hcd) (hb _ _ _ _ ?_)
  refine wpAny_newFunctionEnv_cells S.kind (fun ⟨n, v⟩ hy => by
    rcases S.par n (List.of_mem_zip hy).1 with q | q
    · exact .inl q
    · exact .inr ⟨q, PySem.W.cellsFrom_some _ _ _ (.inl q)⟩) fun env he s1 ic => ?_
  subst he
  refine ⟨nl.keeps ic.toInCall.keep, codeAny_func ?_⟩
  obtain ⟨t, ht, hq⟩ := hbody cdv A outer s H vs Q E p (hr.deeper _) hg hsp
  have I0 := L2H.inv_startH (CX := CX0) (E := E) S hpin e0 hl r ic
  refine wpAny_mono (ht.run [] s1 (start N vs) H _ I0 hq) (fun fl s' hs => ?_) fun e s' hs => hs
  cases fl with
  | ret u =>
    obtain ⟨v, σ', H', J, rv, q⟩ := hs
    exact ⟨v, H', J.os, J.bare, J.base, J.hok, rv, q⟩
  | next =>
    obtain ⟨σ', H', J, q⟩ := hs
    exact ⟨.non, H', J.os, J.bare, J.base, J.hok, rfl, q⟩
  | brk =>
    obtain ⟨_, _, _, q⟩ := hs
    exact q.elim
  | cont =>
    obtain ⟨_, _, _, q⟩ := hs
    exact q.elim
structure HasP (P : Program) (w : World) (K : PySem.W.Frag) (mg : Str → Option Value) (base : Heap) (k : Nat) (x : Str) (st : Stmt) (ps : List Str) (sp : Addr × Obj → Sp) : Prop where
  ex : ∃ fd, FunD K x x (defArgs st) (defBody st) (defScope st) [] [] (He.ga K x) fd ∧ FnP P w K mg base k (He.ga K x) fd ps sp
  glo : mg x = some (.ref (He.ga K x))
theorem Dfd.hasP {P : Program} {w : World} {K : PySem.W.Frag} {mg : Str → Option Value} {base : Heap} {k : Nat} {x : Str} {st : Stmt} {N ps : List Str} {sp : Addr × Obj → Sp} (D : Dfd K mg x st) (S : FnScope N ps (defScope st)) (len : ∀ p vs H Q E, sp p vs H Q E → vs.length = ps.length)
    (hbody : ∀ (cdv : Value) (A : Around) (outer : List Env) (s : Shared) (H : Hp) (vs : List V) (Q : VK) (E : XK) (p : Addr × Obj), RoomH k (A.deeper (envOfC x (defScope st) s.heap.objs.size (He.ga K x) cdv)) → (A.deeper (envOfC x (defScope st) s.heap.objs.size (He.ga K x) cdv)).guards = some [] → sp p vs H Q E →
      ∃ t, PSs (L2H.cxH CX0 P w K mg base N x (defScope st) (He.ga K x) cdv A outer s H E p) (defBody st) t ∧ t { nx := fun _ H' => Q .non H', rt := Q } (start N vs) H) :
    HasP P w K mg base (k + 1) x st ps sp := by
  obtain ⟨fd, F⟩ := D.ex
  exact ⟨⟨fd, F, fnP_of F S len hbody⟩, D.glo⟩
theorem pe_fnP {X : Cx} {k : Nat} {ps : List Str} {sp : Addr × Obj → Sp} {x : Str} {st : Stmt} {q pos : Pos} {e : Expr} {es : List Expr} {t : TA} {p : Addr × Obj} (F : HasP X.prog X.w X.K X.mg X.base k x st ps sp) (hb : PosB x st ps) (hp : p ∈ X.pn) (hr : RoomH k X.A) (hg : X.A.guards = some []) (hgl : Gl X x)
    (ha : PA X (e :: es) t) (hdb : (x == ("__debug__" : Str)) = false := by decide) (he : starEach (e :: es) X.env = (false, eval e X.env) :: starEach es X.env := by rfl)
    (hpl : (backTo pos (starEach es X.env)).any (·.1) = false := by rfl) : PE X (.Call (.Name x q) (e :: es) [] pos) (tCall (sp p) [] E0 t) := by
  obtain ⟨fd, FD, G⟩ := F.ex
  refine ⟨fun pins s σ H Q I h => ?_⟩
  refine wpAny_Call_Name_kw (ld_glob I hgl F.glo ?_ hdb)
  refine PySem.W.callWith_K (h₀ := X.base) I.ok.mod.kin FD.kp (thn (ha.run pos pins s σ H _ I h) fun us s1 ⟨vs, H1, I1, r, q⟩ => ⟨I1.kIn, ?_⟩) he hpl
  have q2 : sp p vs H1 Q E0 := by rw [← List.append_nil vs]; exact q
  obtain ⟨kV, doc, pm, an, cdv, ct, rfl⟩ := FunD.noDef FD
  have P1 := I1.pin p (List.mem_append_left _ hp)
  have hpin : PinOk X.stack H1 s1 p := ⟨P1.1, P1.2.1, fun hm => (List.mem_cons.mp (I1.stkSub p.1 hm)).elim P1.2.2.1 P1.2.2.2.1, P1.2.2.2.2⟩
  have b := hb kV doc pm an cdv ct us (by rw [← r.length]; exact G.len _ _ _ _ _ q2)
  refine wpAny_call (codeAny_mono (G.run X.A X.stack s1 H1 ⟨us, []⟩ us vs Q E0 p hr hg hpin I1.env0 (.of_eq b) r q2) fun z s' hq => ?_)
  cases z with
  | error e => exact (show False from hq).elim
  | ok fl =>
    cases fl with
    | ret u => exact I1.after hq
    | next => exact hq.elim
    | brk => exact hq.elim
    | cont => exact hq.elim
end TP
namespace TP
open PySem PySem.Spec PyProof.Rows L2 LamX
theorem law_callGT {P : Program} {w : World} {K : PySem.W.Frag} {mg mb : Str → Option Value} {k : Nat} {fa a : Addr} {cs : List (Addr × Addr)} {fd : FuncData} {x : Str} {sp : Sp} {s₁ : Shared} {vs : List Value} {ns : List Int}
    (KX : K.In s₁.heap) (hns : s₁.heap.Ns mainGlobals mg) (hb : s₁.heap.Ns builtinsNs mb) (hbb : ∀ x : Str, x ≠ "__name__" → mb x = bootBuiltins x) (hlim : s₁.heap.NoLimit) (hg : s₁.gens = #[])
    (hT : ∀ p ∈ cs, s₁.heap.get? p.2 = some { cls := .none, data := .fields #[] }) (nT : ∀ p ∈ cs, K.lookup p.2 = none) (C : ∀ p ∈ cs, PySem.W.CodeHd s₁.heap p.1 p.2)
    (hbm : ∃ (bm : Addr) (ob : Obj), mg "__builtins__" = some (.ref bm) ∧ bm ≠ builtinsNs ∧ s₁.heap.get? bm = some ob ∧ ob.cls = .type "module" ∧ ob.dict = some builtinsNs ∧ ob.data = .plain)
    (ha : s₁.heap.get? a = some { cls := .type "list", data := .seq vs.toArray }) (hi : IntsAre vs ns) (hl : ns.length ≤ sizeLine) (hr : Room k callerA)
    (F : ∀ base : Heap, K.In base → base.Ns mainGlobals mg → (∀ p ∈ cs, TabB base mg p.1 p.2) → FnG P w K mg base CX0 k fa fd [x] sp) (hbind : ∀ (s : Shared) (u : Value), BindsTo s fd ⟨[u], []⟩ [(x, u)])
    (hsp : ∀ H : Hp, (∀ p ∈ cs, H p.2 = some (.tbl #[])) → SqL K H a (ns.map V.int) → sp [.ref a] H (fun v _ => v = .bl true) fun _ _ _ => False) :
    codeAny (model P w) callerA (.call (.ref fa) ⟨[.ref a], []⟩) (fun r s' => r = .ok (.ret (.bool true)) ∧ OldK s₁.heap s'.heap ∧ s'.os = s₁.os ∧ AllBare s'.gens) s₁ := by
  have rv := vals_ints hi
  have lenV := hi.length
  have isT : ∀ b : Addr, b ∈ cs.map (·.2) → s₁.heap.get? b = some { cls := .none, data := .fields #[] } := fun b hb => by
    obtain ⟨p, hp, e⟩ := List.mem_map.mp hb
    rw [← e]
    exact hT p hp
  have aT : a ∉ cs.map (·.2) := fun z => by
    have q := isT a z
    rw [ha] at q
    have z' : Data.seq vs.toArray _ = Data.fields #[] := congrArg Obj.data (Option.some.inj q)
    cases z'
  have memT : ∀ p ∈ cs, p.2 ∈ cs.map (·.2) := fun p hp => List.mem_map.mpr ⟨p, hp, rfl⟩
  -- from an abstract heap in which nothing but the script and the tables may be tracked
  have core : ∀ H : Hp, (∀ p ∈ cs, H p.2 = some (.tbl #[])) → (∀ b, H b = none ∨ b ∈ cs.map (·.2) ∨ ∃ o xs, H b = some (.frz o (.lst xs))) → SqL K H a (ns.map V.int) → HOk P w H s₁.heap → (∀ b, H b ≠ none → b = a ∨ b ∈ cs.map (·.2)) → (H a ≠ none → K.lookup a = none) →
      codeAny (model P w) callerA (.call (.ref fa) ⟨[.ref a], []⟩) (fun r s' => r = .ok (.ret (.bool true)) ∧ OldK s₁.heap s'.heap ∧ s'.os = s₁.os ∧ AllBare s'.gens) s₁ := by
    intro H hH hO hS hok hA hK
    have base_of : ∀ {b : Addr} {o : Obj}, s₁.heap.get? b = some o → H b = none → (hidT s₁.heap H).get? b = some o := fun e n => hidT_get e n
    have noD : ∀ {b : Addr} {o : Obj}, s₁.heap.get? b = some o → (∀ vs n, o.data ≠ .seq vs n) → o.data ≠ .fields #[] → H b = none := fun {b o} e h1 h2 => by
      cases q : H b with
      | none => rfl
      | some u =>
        rcases hA b (by rw [q]; simp) with e' | e'
        · rw [e', ha] at e
          cases e
          exact (h1 _ _ rfl).elim
        · rw [isT b e'] at e
          cases e
          exact (h2 rfl).elim
    have noA : ∀ {b : Addr} {o : Obj} {es : Array DictEntry} {ep : Nat}, s₁.heap.get? b = some o → o.data = .dict es ep → H b = none := fun {b o es ep} e d => by
      refine noD e (fun vs n z => ?_) fun z => ?_
      · rw [d] at z
        cases z
      · rw [d] at z
        cases z
    have nsK : ∀ {b : Addr} {m : Str → Option Value}, s₁.heap.Ns b m → (hidT s₁.heap H).Ns b m := fun {b m} ⟨o, es, ep, e, d, r⟩ => ⟨o, es, ep, base_of e (noA e d), d, r⟩
    have hKb : K.In (hidT s₁.heap H) := fun b o e => base_of (KX b o e) (by
      cases q : H b with
      | none => rfl
      | some u =>
        rcases hA b (by rw [q]; simp) with e' | e'
        · rw [e'] at e q
          rw [hK (by rw [q]; simp)] at e
          cases e
        · obtain ⟨p, hp, ep⟩ := List.mem_map.mp e'
          rw [← ep, nT p hp] at e
          cases e)
    have hM : L2.Mod K mg (hidT s₁.heap H) := ⟨hKb, nsK hns, ⟨mb, nsK hb, hbb⟩, let ⟨mc, h1, h2⟩ := hlim; ⟨mc, nsK h1, h2⟩⟩
    have TB : ∀ p ∈ cs, TabB (hidT s₁.heap H) mg p.1 p.2 := fun p hp => by
      have hTp := hT p hp
      refine ⟨?_, ?_, fun z => ?_⟩
      · obtain ⟨o, us, file, tf, flags, tg, inF, text, tt, e1, r1, r2, r3, r4, r5, r6, r7, r8, hne⟩ := C p hp
        refine ⟨o, us, file, tf, flags, tg, inF, text, tt, base_of e1 (noD e1 (fun vs n z => ?_) fun z => ?_), r1, r2, r3, r4, r5, r6, r7, r8, hne⟩
        · rw [r2] at z
          cases z
        · rw [r2] at z
          cases z
          simp at r3
      · obtain ⟨bm, ob, b1, b2, b3, b4, b5, b6⟩ := hbm
        have nG : bm ≠ mainGlobals := fun q => by
          obtain ⟨o, es, ep, e, hd, _⟩ := hns
          rw [q, e] at b3
          cases b3
          rw [hd] at b6
          cases b6
        have nP : bm ≠ p.2 := fun q => by
          rw [q, hTp] at b3
          cases b3
          cases b6
        refine ⟨bm, ob, b1, b2, nG, nP, base_of b3 (noD b3 (fun vs n z => ?_) fun z => ?_), b4, b5, b6⟩
        · rw [b6] at z
          cases z
        · rw [b6] at z
          cases z
      · obtain ⟨o, es, ep, e, hd, _⟩ := hns
        rw [z, hTp] at e
        cases e
        cases hd
    have e0 : Env0 P w K mg (hidT s₁.heap H) callerA [] s₁ H := ⟨rfl, hM, fun b o e => of_hidT e, Nat.le_of_eq (hidT_size _ _), trivial, fun b hb => absurd (show b ∈ ([] : List Addr) from hb) (by simp), hok, .of_eq hg⟩
    refine codeAny_mono ((F _ hKb (nsK hns) TB).run callerA [] s₁ H ⟨[.ref a], []⟩ [.ref a] [.ref a] _ _ hr rfl e0 (hbind s₁ (.ref a)) (.cons rfl .nil) (hsp H hH hS)) fun r s' h => ?_
    cases r with
    | error e => exact (show False from h).elim
    | ok fl =>
      cases fl with
      | next => exact False.elim h
      | brk => exact False.elim h
      | cont => exact False.elim h
      | ret u =>
        obtain ⟨v, H', os, bare, un, hok', r', q⟩ := h
        have q' : v = .bl true := q
        subst q'
        obtain rfl : u = Value.bool true := r'
        have key : ∀ b o, b ∉ cs.map (·.2) → s₁.heap.get? b = some o → s'.heap.get? b = some o := fun b o nb e => by
          cases q : H b with
          | none => exact un.keep b o e q (by intro z; exact absurd (show b ∈ ([] : List Addr) from z) (by simp)) (by simp)
          | some u =>
            rcases hO b with z | z | ⟨ob, xs, z⟩
            · rw [q] at z; cases z
            · exact absurd z nb
            · have z2 := un.frzs b ob _ z
              obtain ⟨e1, _⟩ := hok b _ z
              obtain ⟨e2, _⟩ := hok' b _ z2
              rw [e] at e1; cases e1
              exact e2
        have grown : ∀ p ∈ cs, ∃ more : Array Value, s'.heap.get? p.2 = some { cls := .none, data := .fields more } := fun p hp => by
          obtain ⟨more, z⟩ := un.tbls p.2 #[] (hH p hp)
          exact ⟨_, hok' p.2 _ z⟩
        refine ⟨rfl, ⟨fun b o e => ?_, fun b o e => ?_⟩, os, bare⟩
        · by_cases hb : b ∈ cs.map (·.2)
          · obtain ⟨p, hp, ep⟩ := List.mem_map.mp hb
            obtain ⟨more, hm⟩ := grown p hp
            rw [← ep] at e ⊢
            rw [hT p hp] at e
            cases e
            exact .inr (.inl ⟨((C p hp).tab (hT p hp)).isCodeTable, rfl, #[], more, rfl, by rw [Array.empty_append]; exact hm⟩)
          · exact .inl (key b o hb e)
        · by_cases hb : b ∈ cs.map (·.2)
          · obtain ⟨p, hp, ep⟩ := List.mem_map.mp hb
            obtain ⟨more, hm⟩ := grown p hp
            rw [← ep]
            exact ⟨_, hm⟩
          · exact ⟨o, key b o hb e⟩
  cases hk : K.lookup a with
  | some o =>
    have e := KX a o hk
    rw [ha] at e
    cases e
    refine core (fun b => if b ∈ cs.map (·.2) then some (.tbl #[]) else none) (fun p hp => if_pos (memT p hp)) (fun b => ?_) (.inr ⟨_, vs.toArray, _, hk, rfl, rfl, rfl, by rw [List.size_toArray, lenV]; exact hl, by simpa using rv⟩) (fun b u z => ?_) (fun b z => ?_) fun z => absurd (show (if a ∈ cs.map (·.2) then some (HO.tbl #[]) else none) = none from if_neg aT) z
    · by_cases hb : b ∈ cs.map (·.2)
      · exact .inr (.inl hb)
      · exact .inl (if_neg hb)
    · by_cases hb : b ∈ cs.map (·.2)
      · have z' := (if_pos hb).symm.trans z
        cases z'
        exact isT b hb
      · have z' := (if_neg hb).symm.trans z
        cases z'
    · by_cases hb : b ∈ cs.map (·.2)
      · exact .inr hb
      · exact absurd (if_neg hb) z
  | none =>
    refine core (fun b => if b = a then some (.frz { cls := .type "list", data := .seq vs.toArray } (.lst (ns.map V.int))) else if b ∈ cs.map (·.2) then some (.tbl #[]) else none) (fun p hp => (if_neg (show ¬ p.2 = a from fun z => aT (by rw [← z]; exact memT p hp))).trans (if_pos (memT p hp))) (fun b => ?_)
      (.inl (.inr ⟨{ cls := .type "list", data := .seq vs.toArray }, if_pos rfl⟩)) (fun b u z => ?_) (fun b z => ?_) fun _ => hk
    · by_cases hb : b = a
      · exact .inr (.inr ⟨_, _, if_pos hb⟩)
      · by_cases hb2 : b ∈ cs.map (·.2)
        · exact .inr (.inl hb2)
        · exact .inl ((if_neg hb).trans (if_neg hb2))
    · by_cases hb : b = a
      · have z' := (if_pos hb).symm.trans z
        cases z'
        rw [hb]
        exact ⟨ha, by rw [List.length_map]; exact hl, vs, _, rv, ha⟩
      · have z1 := (if_neg hb).symm.trans z
        by_cases hb2 : b ∈ cs.map (·.2)
        · have z' := (if_pos hb2).symm.trans z1
          cases z'
          exact isT b hb2
        · have z' := (if_neg hb2).symm.trans z1
          cases z'
    · by_cases hb : b = a
      · exact .inl hb
      · by_cases hb2 : b ∈ cs.map (·.2)
        · exact .inr hb2
        · exact absurd ((if_neg hb).trans (if_neg hb2)) z
def LawAtG (l : PySem.W.OpenLaw) (w : World) (K : PySem.W.Frag) (k n : Nat) (x : Str) (mg : Str → Option Value) (fa : Addr) (h : Heap) : Prop :=
  ∃ (fd : FuncData) (cs : List (Addr × Addr)) (sp : Sp), (∀ p ∈ cs, h.get? p.2 = some { cls := .none, data := .fields #[] }) ∧ (∀ p ∈ cs, K.lookup p.2 = none) ∧ (∀ p ∈ cs, PySem.W.CodeHd h p.1 p.2) ∧ (∀ (s : Shared) (u : Value), BindsTo s fd ⟨[u], []⟩ [(x, u)]) ∧
    (∀ (H : Hp) (a : Addr) (ns : List Int), ns.length ≤ n → (∀ p ∈ cs, H p.2 = some (.tbl #[])) → SqL K H a (ns.map V.int) → sp [.ref a] H (fun v _ => v = .bl true) fun _ _ _ => False) ∧
    ∀ base : Heap, K.In base → base.Ns mainGlobals mg → (∀ p ∈ cs, TabB base mg p.1 p.2) → FnG l.prog w K mg base CX0 k fa fd [x] sp
theorem walkGT {l : PySem.W.OpenLaw} {n k : Nat} {q : Program} {loose : List Str} {XP : (Str → Option Value) → Heap → Prop} {YP : World → Heap → Prop} {d : DefRec} {x : Str}
    (hn : l.most = some n) (hn2 : n ≤ sizeLine) (hdf : d.params.defaults = []) (hr : Room k callerA)
    (F : ∀ (w : World) (mg : Str → Option Value) (fa : Addr) (h : Heap), YP w h → h.Ns mainGlobals mg → mg d.name = some (.ref fa) → ∃ K : PySem.W.Frag, K.In h ∧ LawAtG l w K k n x mg fa h) :
    PySem.W.WalkO q loose XP YP l.row.toRowW d [] (fun f vs => PySem.call f vs) := by
  refine Att.attach_call hn hdf fun w s₀ s₁ mg mb fa o pm cd doc a vs ns G Y ho hd hcd hmg hobj hints hlen hg => ?_
  obtain ⟨K, KX, fd, cs, sp, hT, nT, C, hb, hsp, hF⟩ := F w mg fa _ Y G.T.g hmg
  exact law_callGT KX G.T.g G.T.b G.T.builtins G.T.nolimit hg hT nT C G.T.bmain hobj hints (Nat.le_trans hlen hn2) hr hF hb fun H hH hS => hsp H a ns hlen hH hS
end TP
namespace TPE
open PySem
theorem refsXB_cases {b : XB} : ∀ l : List Value, refsXB b l = true → (∃ c r, l = .ref c :: r ∧ refsXB b r = true) ∨ l = b.tl := fun l => by
  cases l with
  | nil => exact fun e => .inr (beq_iff_eq.mp e)
  | cons v r => cases v <;> first | exact fun e => .inl ⟨_, r, rfl, e⟩ | exact fun e => .inr (beq_iff_eq.mp e)
theorem tl_pass (b : XB) (self : Value) : PySem.refuseLoop self "__setattr__" b.tl = pure () := by
  cases b <;> kernel_rfl
theorem refsXB_pass {b : XB} (self : Value) : ∀ l : List Value, refsXB b l = true → PySem.refuseLoop self "__setattr__" l = pure () := fun l => by
  induction l with
  | nil => exact fun e => by cases b <;> exact absurd e (by decide)
  | cons a r ih =>
    intro e
    rcases refsXB_cases (a :: r) e with ⟨c, r', q, h⟩ | q
    · obtain ⟨rfl, rfl⟩ := List.cons.inj q
      rw [PySem.refuseLoop_ref]; exact ih h
    · rw [q]; exact tl_pass b self
theorem refsXB_contains {b : XB} (X : String) : ∀ l : List Value, refsXB b l = true → l.contains (.type X) = b.tl.contains (.type X) := fun l => by
  induction l with
  | nil => exact fun e => by cases b <;> exact absurd e (by decide)
  | cons a r ih =>
    intro e
    rcases refsXB_cases (a :: r) e with ⟨c, r', q, h⟩ | q
    · obtain ⟨rfl, rfl⟩ := List.cons.inj q
      rw [List.contains_cons, ih h]; rfl
    · rw [q]
theorem refsXB_ne {b : XB} {l : List Value} (e : refsXB b l = true) : l.isEmpty = false := by
  cases l with
  | nil => cases b <;> exact absurd e (by decide)
  | cons _ _ => rfl
end TPE
namespace TPE
open PySem PySem.HandSPX Builtin Builtin.ObjectAttr
section
variable {prog : Program} {w : World} {A : Around} {E : Value → Shared → Prop} {R : Result → Shared → Prop} {hp : Heap} {g : Array GenState} {d : Drawn} {t : Nat} {os : OsState}
theorem exc_osaB {b : XB} {K : W.Frag} {name : Str} {tk : Tok} {v : Value} {x C : Addr} {fv : Array Value} {cd : ClassData}
    (X : K.In hp) (hx : hp.get? x = some { cls := .ref C, data := .fields fv }) (hcd : W.clsIn K C = some cd) (hm : refsXB b cd.mro = true) (hh : cd.hasDict = true) (ha : W.findIn K (.ref C) name = some none)
    (hq : ∀ h' tk' dx, (∀ b o, b ≠ x → hp.get? b = some o → h'.get? b = some o) → hp.objs.size ≤ dx → dx ≠ x → h'.get? x = some { cls := .ref C, dict := some dx, data := .fields fv } →
      h'.Ns1 dx (fun y => if y = name then some v else none) → R (.ok (.ret .none)) ⟨h', g, d, tk', os⟩) :
    codeAny (model prog w) A (.call (.builtin "object.__setattr__") ⟨[.ref x, .str name tk, v], []⟩) R ⟨hp, g, d, t, os⟩ := by
  have I : W.InstAt hp x { cls := .ref C, data := .fields fv } C none := ⟨hx, rfl, rfl, trivial⟩
  have SF := F.store_object
  have ne := refsXB_ne hm
  have hob : cd.mro.contains (.type "object") = true := (refsXB_contains "object" _ hm).trans (by cases b <;> decide +kernel)
  have hxs : x ≠ hp.objs.size := Nat.ne_of_lt (Heap.lt_size hx)
  have sub : W.Looks (model prog w) hp (isInstance (.ref x) (.type "object")) true := I.type.andThen (W.looks_mroIn X (by unfold W.mroIn; rw [hcd, Option.bind_some, if_neg (by rw [ne]; decide), hob]))
  refine codeAny_call_builtin SF.slot.plain SF.entry (@W.check_slot (model prog w) _ _ ⟨hp, g, d, t, os⟩ "object.__setattr__" "object" "__setattr__" (.ref x) [.str name tk, v] [] _ SF.kind SF.split sub (SF.args (.ref x) (.str name tk) v) ?_)
  have hmr : W.Looks (model prog w) hp (mroOf (.ref C)) cd.mro := (W.looks_clsIn X hcd).andThen .now
  have L3 : W.Looks (model prog w) hp (storeTaker? none) none := .now
  have hcls : W.Looks (model prog w) hp (classData C) cd := W.looks_clsIn X hcd
  rw [W.osa_eq, refuse_eq]
  refine wpAny_bind (wpAny_bind (I.type.at (wpAny_bind (hmr.at ?_))))
  rw [refsXB_pass _ _ hm]
  refine wpAny_pure (wpAny_bind (I.type.at (wpAny_bind ((W.looks_findIn X ha).at (wpAny_bind (L3.at ?_))))))
  show wpAny _ _ (storeInOwnDict (.ref x) (.ref C) (.str name tk) name v false) _ _ _
  obtain ⟨nm, bs, mro, ns, qn, hd, sn, sb, ab, col, del⟩ := cd
  dsimp only at hh
  subst hh
  unfold storeInOwnDict ownDictForStores
  repeat (first | with_reducible refine store_in_new ?_ ?_ | with_reducible refine wpAny_loadPart_at hx ?_ | with_reducible refine hcls.at ?_ | wp_step)
  · exact ⟨_, #[], _, (Heap.get?_update_ne _ _ _ _ hxs.symm).trans (Heap.get?_push_at rfl rfl), rfl, fun e he => absurd he (by simp), fun _ => rfl⟩
  · intro h' tk' hn' hs
    have hx₁ : (hp.push { cls := .type "dict", data := .dict #[] }).get? x = some { cls := .ref C, data := .fields fv } := Heap.get?_push_of_some _ hx
    refine hq h' tk' hp.objs.size (fun b o hb ho => ?_) (Nat.le_refl _) hxs.symm ?_ hn'
    · exact (hs.2 b (Nat.ne_of_lt (Heap.lt_size ho))).trans ((Heap.get?_update_ne _ _ _ _ hb).trans (Heap.get?_push_of_some _ ho))
    · exact (hs.2 x hxs).trans (Heap.get?_update_self _ hx₁ rfl)
end
end TPE
namespace TP
open PySem PySem.Spec PyProof.Rows L2
structure OexB (K : PySem.W.Frag) (C : Addr) : Prop where
  cls : ∃ xb nm q N bs bm sn sub ab col dd k0 k1 k2 k3 k5, K.lookup C = some (excClassObj nm q C N bs bm true sn sub ab col dd k0 k1 k2 k3 k5 (TPE.XB.nw xb)) ∧ TPE.refsXB xb bm = true
  sa : PySem.W.findIn K (.ref C) "__setattr__" = some (some (.builtin "object.__setattr__"))
  exC : PySem.W.subIn K (.ref C) (.type "BaseException") = some true
  tyC : PySem.W.typeIn K (.ref C) = some (.type "type")
  kC : PySem.W.keepIn K (.ref C) = true
section
variable {X : Cx} {pins : List (Addr × Obj)} {σ : L2.St} {H : Hp} {s : Shared} {a C dx : Addr} {f : Str} {y : V} {u : Value} {fs : List (Str × V)} {Q : Unit → Shared → Prop} {E : Value → Shared → Prop} {A : Around}
theorem ost_newB (T : OexB X.K C) (I : Inv X pins σ H s) (e : H a = some (exo a C none)) (hno : PySem.W.findIn X.K (.ref C) f = some none) (ry : RelV y u)
    (h : ∀ dx s', H dx = none → dx ≠ a → Inv X pins σ (upd (upd H dx (exd dx [(f, y)])) a (exo a C (some dx))) s' → Q () s') : wpAny (model X.prog X.w) A (setAttr (.ref a) f u) Q E s := by
  obtain ⟨xb, nm, q, N, bs, bm, sn, sub, ab, col, dd, k0, k1, k2, k3, k5, hC, hbm⟩ := T.cls
  have hcl : PySem.W.clsIn X.K C = some { name := nm, bases := bs, mro := .ref C :: bm, ns := N, qualname := q, hasDict := true, slotNames := sn, subclasses := sub, abstract := ab, collection := col, hasDel := false } := by unfold PySem.W.clsIn; rw [hC] <;> rfl
  obtain ⟨t1, ho⟩ := exo_at I.hok e
  obtain ⟨hp, g, d, t, os⟩ := s
  refine PySem.W.set_plain I.kIn (ox := { cls := .ref C, dict := none, data := .fields #[.ref t1, .none, .none, .none, .bool false, .none] }) (od := none) ⟨ho, rfl, rfl, trivial⟩ T.sa ?_
  refine TPE.exc_osaB I.kIn ho hcl (show TPE.refsXB xb (.ref C :: bm) = true from hbm) rfl hno (fun h' tk' dx k dn dne hx hn => ?_)
  have hnd : H dx = none := I.hok.fresh dn
  have nd : ∀ {b : Addr} {o : Obj}, hp.get? b = some o → b ≠ dx := fun {b o} q => Nat.ne_of_lt (Nat.lt_of_lt_of_le (Heap.lt_size q) dn)
  have na : ∀ {b : Addr}, H b = none → b ≠ a := fun {b} n z => by
    rw [z, e] at n
    cases n
  have Un1 : Un X.fs [] H (upd (upd H dx (exd dx [(f, y)])) a (exo a C (some dx))) hp h' := {
    keep := fun b o q n _ _ => k b o (na n) q
    slot := fun b o q n _ _ => ⟨o.slots, k b o (na n) q⟩
    free := fun b o q n _ => by rw [upd_ne (na n), upd_ne (nd q)]; exact n
    there := fun b o q _ => by
      by_cases hb : b = a
      · exact ⟨_, by rw [hb]; exact hx⟩
      · exact ⟨o, k b o hb q⟩
    tups := fun b xs q => by rw [upd_ne (at_ne e q exo_tup), upd_ne (ne_of_none q hnd)]; exact q
    frzs := fun b o v q => by rw [upd_ne (at_ne e q exo_frz), upd_ne (ne_of_none q hnd)]; exact q
    tbls := fun b ps q => ⟨#[], by rw [upd_ne (at_ne e q exo_tbl), upd_ne (ne_of_none q hnd), q]; simp⟩ }
  refine h dx _ hnd dne (I.un (t' := tk') Un1 fun b o q => ?_)
  by_cases hb : b = a
  · subst hb
    rw [upd_same] at q
    cases q
    exact exo_ok hx
  · rw [upd_ne hb] at q
    by_cases hd : b = dx
    · subst hd
      rw [upd_same] at q
      cases q
      exact exd_ok hn (relO_put (fs := []) ry fun g => True.intro)
    · rw [upd_ne hd] at q
      exact (I.hok b o q).stay (fun c v hc z => k c v (by
          rcases hc with hc | hc
          · rw [hc]
            exact hb
          · exact at_ne e hc exo_own) z)
        (fun c hc => by rw [upd_ne (at_ne e hc exo_own), upd_ne (ne_of_none hc hnd)]; exact hc) (fun c xs hc => by rw [upd_ne (at_ne e hc exo_tup), upd_ne (ne_of_none hc hnd)]; exact hc)
end
def tOstB (K : PySem.W.Frag) (f : Str) (to te : TE) : TS := fun D σ H => te σ H fun y H1 => to σ H1 fun x H2 => ∃ a C : Addr, x = .ref a ∧ OexB K C ∧ PySem.W.findIn K (.ref C) f = some none ∧
  (H2 a = some (exo a C none) ∧ ∀ dx, H2 dx = none → dx ≠ a → D.nx σ (upd (upd H2 dx (exd dx [(f, y)])) a (exo a C (some dx))))
section
variable {X : Cx} {o e : Expr} {es : List Expr} {to te : TE} {ta : TA} {f : Str} {p p' p1 p2 pos : Pos}
theorem ps_ostB (ho : PE X o to) (he : PE X e te) (hs : swapsWith e (some (.Attribute o f p')) pos.line X.env = pure false := by rfl) : PS X (.Assign [.Attribute o f p'] e pos) (tOstB X.K f to te) := by
  refine ⟨fun pins s σ H D I h => ?_⟩
  refine plainObj_wpAny_Assign_Attribute (thn (he.run pins s σ H _ I h) fun v s1 ⟨y, H1, I1, r1, q1⟩ => thn (ho.run pins s1 σ H1 _ I1 q1) fun u s2 ⟨x, H2, I2, r2, a, C, ex, T, hno, q⟩ => ?_) hs
  subst ex
  obtain rfl : u = Value.ref a := r2
  obtain ⟨ea, q⟩ := q
  exact ost_newB T I2 ea hno r1 fun dx s' n ne J => ⟨σ, _, J, q dx n ne⟩
theorem pmk_oexB {CX : CXT} {x : Str} {C fI : Addr} {k : Nat} {fd : FuncData} {ps : List Str} {sp : Sp} {ds : List Value} {dvs : List V} (T : OexB X.K C) (iC : PySem.W.findIn X.K (.ref C) "__init__" = some (some (.ref fI))) (tI : PySem.W.typeIn X.K (.ref fI) = some (.type "function"))
    (F1 : FnOk X.prog X.w X.K X.mg X.base CX k fI fd ps sp) (hr : Room (k + 1) X.A) (hb : Binds X.K fd ps ds) (hd : Vals dvs ds) (hx : Passes CX X (fun _ _ _ => False)) (hg : Gl X x) (hm : X.mg x = some (.ref C)) (ha : PA X (e :: es) ta)
    (hdb : (x == ("__debug__" : Str)) = false := by decide) (he : starEach (e :: es) X.env = (false, eval e X.env) :: starEach es X.env := by rfl) (hpl : (backTo pos (starEach es X.env)).any (·.1) = false := by rfl) :
    PMk X (.Call (.Name x p) (e :: es) [] pos) (tMkO C sp dvs ta) := by
  intro pins s σ H Q I h
  obtain ⟨xb, nm, q, N, bs, bm, sn, sub, ab, col, dd, k0, k1, k2, k3, k5, hC, hbm⟩ := T.cls
  refine wpAny_Call_Name_kw (ld_glob I hg hm ?_ hdb)
  refine PySem.W.callWith_K (h₀ := X.base) I.ok.mod.kin T.kC (thn (ha.run pos pins s σ H _ I h) fun us s1 ⟨vs, H1, I1, r1, hz, q1⟩ => ⟨I1.kIn, ?_⟩) he hpl
  show wpAny _ _ (call (.ref C) us) _ _ _
  obtain ⟨hp, g, dr, tk, os⟩ := s1
  have hsz : hp.objs.size ≤ hp.objs.size + 1 := Nat.le_succ _
  have hn : H1 (hp.objs.size + 1) = none := I1.hok.fresh hsz
  have hq := q1 (hp.objs.size + 1) hn
  have kk : ∀ b o, hp.get? b = some o → ((hp.push (PySem.W.kdv_tup us)).push (PySem.HandSPX.excO C hp.objs.size)).get? b = some o := fun b o e => Heap.get?_push_of_some _ (Heap.get?_push_of_some _ e)
  have hget : ((hp.push (PySem.W.kdv_tup us)).push (PySem.HandSPX.excO C hp.objs.size)).get? (hp.objs.size + 1) = some (PySem.HandSPX.excO C hp.objs.size) := by heap_get
  have I2 : Inv X pins σ (upd H1 (hp.objs.size + 1) (exo (hp.objs.size + 1) C none)) ⟨(hp.push (PySem.W.kdv_tup us)).push (PySem.HandSPX.excO C hp.objs.size), g, dr, tk, os⟩ :=
    I1.laid (t' := tk) (a := hp.objs.size + 1) (o := exo (hp.objs.size + 1) C none) (h' := (hp.push (PySem.W.kdv_tup us)).push (PySem.HandSPX.excO C hp.objs.size)) kk hsz (exo_ok hget)
  have r2 : Vals (V.ref (hp.objs.size + 1) :: (vs ++ dvs)) (Value.ref (hp.objs.size + 1) :: (us ++ ds)) := .cons rfl (r1.append hd)
  have hl : (Value.ref (hp.objs.size + 1) :: us ++ ds).length = ps.length := by
    have e := r2.length
    rw [F1.len _ _ _ _ hq] at e
    exact e.symm
  have hus : us.length ≤ sizeLine := by
    rw [← Paired.length r1, sizeLine_eq]
    omega
  refine wpAny_call (PySem.HandSPX.call_own (TPE.base xb) (fun Y => TPE.refsXB_contains Y bm hbm) (I1.kIn _ _ hC) (PySem.W.looks_findIn I1.kIn iC) (fun self => PySem.W.bind_fn I1.kIn self tI) hus
    (codeAny_mono (F1.run _ X.stack _ _ ⟨Value.ref (hp.objs.size + 1) :: us, []⟩ (Value.ref (hp.objs.size + 1) :: (us ++ ds)) _ _ (fun _ _ _ => False) (hr.make C us []) (I2.env0.make C us []) (hb _ (Value.ref (hp.objs.size + 1) :: us) I2.kIn hl) r2 hq) fun r s' hq' => ?_))
  cases r with
  | error er => exact hx pins σ _ _ er s' I2 hq'
  | ok fl =>
    cases fl with
    | ret u =>
      obtain ⟨v, H2, os2, bare2, un2, hok2, rv, ev, d, fs, ea, ed, hd1, q2⟩ := hq'
      subst ev
      obtain ⟨h2, g2, d2, t2, os'⟩ := s'
      exact ⟨rv, mk_end (raises_own T.exC T.tyC) I1 hsz kk un2 hok2 os2 bare2 ea ed hd1 q2⟩
    | next => exact False.elim hq'
    | brk => exact False.elim hq'
    | cont => exact False.elim hq'
end
theorem oexS_ok {K : PySem.W.Frag} {C : Addr} (q : oexS K C = true) : ∃ xb nm q N bs bm sn sub ab col dd k0 k1 k2 k3 k5, K.lookup C = some (excClassObj nm q C N bs bm true sn sub ab col dd k0 k1 k2 k3 k5 (TPE.XB.nw xb)) ∧ TPE.refsXB xb bm = true := by
  unfold oexS at q
  split at q
  · rename_i dd cd sl ho
    split at q
    · rename_i C' bm k0 k1 k2 k3 n k5 hm hs
      simp only [Bool.and_eq_true, Bool.or_eq_true, beq_iff_eq, Bool.not_eq_true'] at q
      obtain ⟨rfl, hn, hdel, hdct⟩ := q
      have hxb : ∃ xb : TPE.XB, n = xb.nw ∧ TPE.refsXB xb bm = true := by
        rcases hn with h | h | h
        · exact ⟨.ve, h⟩
        · exact ⟨.le, h⟩
        · exact ⟨.ae, h⟩
      obtain ⟨xb, rfl, ht⟩ := hxb
      obtain ⟨nm, bs, mro, ns, qn, hd, sn, sub, ab, col, del⟩ := cd
      dsimp only at hm hdel hdct
      subst hm hdel hdct
      have hsl : sl = #[k0, k1, k2, k3, some (.builtin xb.nw), k5] := by
        obtain ⟨l⟩ := sl
        simp only at hs
        rw [hs]
      subst hsl
      exact ⟨xb, nm, qn, ns, bs, bm, sn, sub, ab, col, dd, k0, k1, k2, k3, k5, ho, ht⟩
    · cases q
  · cases q
structure ExcK (K : PySem.W.Frag) (mg : Str → Option Value) (C f : Str) : Prop where
  glo : mg C = some (.ref (He.ga K C))
  oex : OexB K (He.ga K C)
  na : PySem.W.findIn K (.ref (He.ga K C)) f = some none
  ini : PySem.W.findIn K (.ref (He.ga K C)) "__init__" = some (some (.ref (He.ma K (He.ga K C) "__init__")))
  fin : PySem.W.typeIn K (.ref (He.ma K (He.ga K C) "__init__")) = some (.type "function")
  ec : ExcC K (He.ga K C)
theorem exkB_ok {K : PySem.W.Frag} {h : Heap} {mg : Str → Option Value} {C f : Str} (X : K.In h) (G : h.Ns mainGlobals mg) (c : exkB K C f = true) : ExcK K mg C f := by
  unfold exkB at c
  simp only [Bool.and_eq_true, decide_eq_true_eq] at c
  obtain ⟨c1, c2, c3, c4, c5, c6, c7, c8, c9, d1, d2, d3, d4, d5, d6, d7⟩ := c
  exact ⟨He.glo_ok X G c1, ⟨oexS_ok c2, He.eqO_ok c3, c4, c5, c6⟩, He.eqO_ok c7, He.eqO_ok c8, c9, ⟨He.eqO_ok d1, He.eqO_ok d2, c4, d3, He.eqO_ok d4, He.eqO_ok d5, d6, d7⟩⟩
def sp_ini (K : PySem.W.Frag) (C f : Str) : Sp := fun vs H Q _ => ∃ (a : Addr) (y : V), vs = [.ref a, y] ∧ H a = some (exo a (He.ga K C) none) ∧ ∀ dx, H dx = none → dx ≠ a → Q .non (upd (upd H dx (exd dx [(f, y)])) a (exo a (He.ga K C) (some dx)))
theorem ok_ini {P : Program} {w : World} {K : PySem.W.Frag} {mg : Str → Option Value} {base : Heap} {C f s y q : Str} {st : Stmt} {p1 p2 p3 p4 : Pos} {fd : FuncData} (e : ExcK K mg C f) (F : FunD K "__init__" q (defArgs st) (defBody st) (defScope st) [] [] (He.ma K (He.ga K C) "__init__") fd)
    (S : FnScope [s, y] [s, y] (defScope st)) (hb : defBody st = [.Assign [.Attribute (.Name s p1) f p2] (.Name y p3) p4]) (vs : Vis (defScope st) s) (vy : Vis (defScope st) y) (d1 : (s == ("__debug__" : Str)) = false := by decide) (d2 : (s == ("__classdict__" : Str)) = false := by decide) (d3 : (y == ("__debug__" : Str)) = false := by decide) (d4 : (y == ("__classdict__" : Str)) = false := by decide) :
    FnOk P w K mg base CX0 2 (He.ma K (He.ga K C) "__init__") fd [s, y] (sp_ini K C f) := by
  obtain ⟨oc, od, dV, kV, doc, pm, an, cdv, ct, osl, rfl, lk, hcd, _, _⟩ := F.ex
  refine fn_of (k := 1) lk hcd S (fun vs H Q E h => ?_) fun A outer sh H vs' Q E hr h => ?_
  · obtain ⟨a, y, rfl, _⟩ := h; rfl
  · obtain ⟨a, v, rfl, ha, k⟩ := h
    rw [hb]
    refine ⟨_, pss_one (ps_ostB (pe_var (i := 0) rfl vs d1 d2) (pe_var (i := 1) rfl vy d3 d4)), ?_⟩
    exact ⟨v, rfl, .ref a, rfl, a, He.ga K C, rfl, e.oex, e.na, ha, fun dx h1 h2 => k dx h1 h2⟩
def RaiC (K : PySem.W.Frag) (C f : Str) (vs : List V) (H1 : Hp) (Q : XK) : Prop := vs.length ≤ 1000 ∧ ∀ a, H1 a = none → sp_ini K C f (.ref a :: (vs ++ [])) (upd H1 a (exo a (He.ga K C) none))
  (fun v H2 => v = .non ∧ ∃ (d : Addr) (fs : List (Str × V)), H2 a = some (exo a (He.ga K C) (some d)) ∧ H2 d = some (exd d fs) ∧ H1 d = none ∧ Q (.ref (He.ga K C)) (some d) (upd (del H2 a) d (.xd fs))) (fun _ _ _ => False)
theorem w_raic {K : PySem.W.Frag} {C f : Str} {y : V} {H1 : Hp} {Q : XK} (h : ∀ d, H1 d = none → Q (.ref (He.ga K C)) (some d) (upd H1 d (.xd [(f, y)]))) : RaiC K C f [y] H1 Q := by
  refine ⟨by show 1 ≤ 1000; decide, fun a ha => ⟨a, y, rfl, upd_same, fun dx h1 h2 => ?_⟩⟩
  have hd : H1 dx = none := by rw [upd_ne h2] at h1; exact h1
  refine ⟨rfl, dx, [(f, y)], upd_same, by rw [upd_ne h2, upd_same], hd, ?_⟩
  have e : upd (del (upd (upd (upd H1 a (exo a (He.ga K C) none)) dx (exd dx [(f, y)])) a (exo a (He.ga K C) (some dx))) a) dx (.xd [(f, y)]) = upd H1 dx (.xd [(f, y)]) := by
    funext b
    by_cases e1 : b = dx
    · subst e1; rw [upd_same, upd_same]
    · rw [upd_ne e1, upd_ne e1]
      by_cases e2 : b = a
      · subst e2; rw [del_same, ha]
      · rw [del_ne e2, upd_ne e2, upd_ne e1, upd_ne e2]
  rw [e]
  exact h dx hd
structure HasX (P : Program) (w : World) (K : PySem.W.Frag) (mg : Str → Option Value) (base : Heap) (C f : Str) : Prop where
  k : ExcK K mg C f
  ex : ∃ (fd : FuncData) (ps : List Str), FnOk P w K mg base CX0 2 (He.ma K (He.ga K C) "__init__") fd ps (sp_ini K C f) ∧ L2.Binds K fd ps []
theorem hasX_of {P : Program} {w : World} {K : PySem.W.Frag} {mg : Str → Option Value} {base : Heap} {C f s y q : Str} {st : Stmt} {p1 p2 p3 p4 : Pos} (e : ExcK K mg C f) (F : ∃ fd, FunD K "__init__" q (defArgs st) (defBody st) (defScope st) [] [] (He.ma K (He.ga K C) "__init__") fd)
    (S : FnScope [s, y] [s, y] (defScope st)) (hb : defBody st = [.Assign [.Attribute (.Name s p1) f p2] (.Name y p3) p4]) (vs : Vis (defScope st) s) (vy : Vis (defScope st) y)
    (bn : ∀ (kV doc pm : Value) (an : Option Addr) (cdv ct : Value) (us : List Value), us.length = 2 → bindArgs (PySem.W.fnOf "__init__" q (defArgs st) (defBody st) (defScope st) .none kV doc pm an cdv ct) ⟨us, []⟩ = pure ([s, y].zip us))
    (d1 : (s == ("__debug__" : Str)) = false := by decide) (d2 : (s == ("__classdict__" : Str)) = false := by decide) (d3 : (y == ("__debug__" : Str)) = false := by decide) (d4 : (y == ("__classdict__" : Str)) = false := by decide) : HasX P w K mg base C f := by
  obtain ⟨fd, F⟩ := F
  obtain ⟨kV, doc, pm, an, cdv, ct, efd⟩ := FunD.noDef F
  refine ⟨e, fd, [s, y], ok_ini e F S hb vs vy d1 d2 d3 d4, Binds.all fun us hl => ?_⟩
  rw [efd]
  exact bn kV doc pm an cdv ct us hl
def tRai (K : PySem.W.Frag) (C f : Str) (W : WX) (te : TE) : TS := fun _ σ H => te σ H fun y H1 => RaiC K C f [y] H1 fun cls d H' => W cls d σ H'
theorem ps_rai {X : Cx} {W : WX} (K : PySem.W.Frag) {C f : Str} {p pos pos' : Pos} {e : Expr} {te : TE} (h : HasX X.prog X.w K X.mg X.base C f) (hc : X.calm = true) (tk : Takes X W) (hr : Room 3 X.A) (hg : Gl X C) (he : PE X e te) (hK : X.K = K := by rfl)
    (hdb : (C == ("__debug__" : Str)) = false := by decide) (hse : starEach [e] X.env = (false, eval e X.env) :: starEach [] X.env := by rfl) (hpl : (backTo pos (starEach [] X.env)).any (·.1) = false := by rfl) :
    PS X (.Raise (some (.Call (.Name C p) [e] [] pos)) none pos') (tRai K C f W te) := by
  subst hK
  obtain ⟨fd, ps, O, B⟩ := h.ex
  exact ps_raise hc tk (pmk_oexB (dvs := []) (ds := []) h.k.oex h.k.ini h.k.fin O hr B .nil pass0 hg h.k.glo (pa_cons he pa_nil hse) hdb hse hpl)
theorem w_rai {K : PySem.W.Frag} {C f : Str} {W : WX} {te : TE} {D : Ends} {σ : L2.St} {H : Hp} (h : te σ H fun y H1 => RaiC K C f [y] H1 fun cls d H' => W cls d σ H') : tRai K C f W te D σ H := h
theorem takesE {P : Program} {w : World} {K : PySem.W.Frag} {mg : Str → Option Value} {base : Heap} {N : List Str} {q : Str} {sc : Scope} {f : Addr} {cd : Value} {A : Around} {outer : List Env} {s : Shared} {H : Hp} {E : XK} :
    Takes (cxOf (L2.CX P w) P w K mg base N q sc f cd A outer s H E) (fun cls d _ H' => E cls d H') := takes_of rfl rfl rfl rfl
theorem passE {X : Cx} {E : XK} (tk : Takes X (fun cls d _ H' => E cls d H')) : Passes (L2.CX X.prog X.w) X E := passes_call tk fun _ _ _ _ h => h
end TP
namespace TP
open PySem PySem.Spec PyProof.Rows L2 LamX
theorem exTab_a {e : ExE} (h : e ∈ exTab) : e ∈ exTabA := List.mem_append_left _ h
theorem exTab_f : ∀ e ∈ exTab, e.2.1 ≠ "" := by decide +kernel
def DdO (H : Hp) (e : ExE) (y : V) : Option Addr → Prop
  | some dd => e.2.1 ≠ "" ∧ H dd = some (.xd [(e.2.1, y)])
  | none => e.2.1 = ""
def fldL (y : V) : Option Addr → List V
  | some _ => [y]
  | none => []
theorem DdO.same {H H' : Hp} {e : ExE} {y : V} : ∀ {dd : Option Addr}, DdO H e y dd → Same H H' → DdO H' e y dd
  | some _, h, s => ⟨h.1, s _ _ h.2⟩
  | none, h, _ => h
def HeldS (K : PySem.W.Frag) (p : Addr × Obj) (H : Hp) (e : ExE) (y : V) (dd : Option Addr) : Prop := Zc (.ref (He.ga K e.1)) dd p.2 ∧ (∃ vs, p.2.data = .fields vs) ∧ DdO H e y dd
def spKind (K : PySem.W.Frag) : Addr × Obj → Sp := fun p vs H Q _ => ∃ (e : ExE) (y : V) (dd : Option Addr), vs = [.ref p.1] ∧ e ∈ exTabA ∧ HeldS K p H e y dd ∧ ∀ H', Same H H' → Q (.str e.2.2) H'
def spFields (K : PySem.W.Frag) : Addr × Obj → Sp := fun p vs H Q _ => ∃ (e : ExE) (y : V) (dd : Option Addr), vs = [.ref p.1] ∧ e ∈ exTabA ∧ HeldS K p H e y dd ∧ ∀ l H', Same H H' → H' l = some (.lst (fldL y dd)) → Q (.ref l) H'
def CaughtC (K : PySem.W.Frag) (cls : Value) (d : Option Addr) (H : Hp) (Q : VK) : Prop := ∃ (e : ExE) (y : V) (dd : Option Addr), e ∈ exTabA ∧ cls = .ref (He.ga K e.1) ∧ d = dd ∧ DdO H e y dd ∧ ∀ l H', Same H H' → H' l = some (.lst (.str e.2.2 :: fldL y dd)) → Q (.ref l) H'
def LstC (xs : List V) (H1 : Hp) (Q : VK) : Prop := xs.length ≤ sizeLine ∧ ∀ p, H1 p = none → Q (.ref p) (upd H1 p (.lst xs))
def TCaught (K : PySem.W.Frag) : (XK → Hp → VK → Prop) → Hp → VK → Prop := fun tl H Q => tl (fun cls d H' => CaughtC K cls d H' Q) H fun v H1 => LstC [.str "returned", v] H1 Q
def tKF (K : PySem.W.Frag) (p : Addr × Obj) : TS := tRet (tOp rCat (tLst (tCons (tCall (spKind K p) [] E0 (tCons (tVar 1) tNil)) tNil)) (tCall (spFields K p) [] E0 (tCons (tVar 1) tNil)))
theorem caught_gives {X : Cx} {k1 k2 : Nat} {x q : Str} {sg : Scope} {g : Addr} {cdg : Value} {stk stf : Stmt} {kk j : Nat} {p1 p2 p3 p4 p5 q1 q2 q3 q4 q5 q6 q7 q8 r1 r2 r3 r4 r5 r6 r7 : Pos}
    (hr : Room (k1 + k2 + 1) X.A) (hg : X.A.guards = some []) (hk : HasP X.prog X.w X.K X.mg X.base k1 "_law_kind" stk ["_law_e"] (spKind X.K)) (hf : HasP X.prog X.w X.K X.mg X.base k2 "_law_fields" stf ["_law_e"] (spFields X.K)) (pbk : PosB "_law_kind" stk ["_law_e"]) (pbf : PosB "_law_fields" stf ["_law_e"])
    (n1 : X.mg "TallyError" = some (.ref (He.ga X.K "TallyError"))) (n2 : X.mg "StateError" = some (.ref (He.ga X.K "StateError"))) (n3 : X.mg "SizeError" = some (.ref (He.ga X.K "SizeError")))
    (hx : ∀ e ∈ exTabA, PySem.W.exmAny X.K (.ref (He.ga X.K e.1)) [.ref (He.ga X.K "TallyError"), .ref (He.ga X.K "StateError"), .ref (He.ga X.K "SizeError")] = some true)
    (g1 : sg.names.lookup ("TallyError" : Str) = some .globalImplicit) (g2 : sg.names.lookup ("StateError" : Str) = some .globalImplicit) (g3 : sg.names.lookup ("SizeError" : Str) = some .globalImplicit) (g4 : sg.names.lookup ("_law_kind" : Str) = some .globalImplicit) (g5 : sg.names.lookup ("_law_fields" : Str) = some .globalImplicit) (g6 : sg.names.lookup ("_law_e" : Str) = some .local) :
    GivesTo X ["_law_call", "_law_e"] x sg g cdg [.Try [.Return (some (.List [.Constant (.str "returned") j p1, .Call (.Name "_law_call" p2) [] [] p3] p4)) p5]
      [.ExceptHandler (some (.Tuple [.Name "TallyError" q1, .Name "StateError" q2, .Name "SizeError" q3] kk q4)) (some "_law_e") [.Return (some (.BinOp (.List [.Call (.Name "_law_kind" r1) [.Name "_law_e" r2] [] r3] r4) .Add (.Call (.Name "_law_fields" r5) [.Name "_law_e" r6] [] r7) q5)) q6] q7] [] [] q8] "_law_call" q (TCaught X.K) := by
  intro f c' s H Q tl act hc h
  have hN : (["_law_call", "_law_e"] : List Str).Nodup := by decide +kernel
  have rmH : ∀ (k : Nat), k ≤ k1 + k2 → ∀ {h : Option Value}, RoomH k ((X.A.deeper (envOfC x sg s.heap.objs.size g cdg)).mark h) := fun k hk h => L2H.RoomH.mono (j := k) (k := k1 + k2) ⟨(hr.deeper (envOfC x sg s.heap.objs.size g cdg)).dp, (hr.deeper (envOfC x sg s.heap.objs.size g cdg)).un⟩ hk
  refine ⟨_, pss_one (ps_try_as3 (X := (cxOf C8.CX0 X.prog X.w X.K X.mg X.base ["_law_call", "_law_e"] x sg g cdg X.A X.stack s H C8.E0).nox) (i := 1) (c1 := .ref (He.ga X.K "TallyError")) (c2 := .ref (He.ga X.K "StateError")) (c3 := .ref (He.ga X.K "SizeError"))
      (tb := fun W D σ H => ∃ Ech : XK, (∀ cls d σ' H', Ech cls d H' → W cls d σ' H') ∧ σ[0]? = some (some (.ref f)) ∧ H c' = some (CodeO c' q) ∧ tl Ech H fun v H1 => LstC [.str "returned", v] H1 D.rt)
      (ts := fun a cls d D σ H => ∀ oe, Zc cls d oe → (∃ vs, oe.data = .fields vs) → σ.length = 2 → tKF X.K (a, oe) D σ H)
      rfl rfl hN rfl g6 ⟨g1, by decide, .inl n1⟩ ⟨g2, by decide, .inl n2⟩ ⟨g3, by decide, .inl n3⟩ L2.takes0 (fun W pn xe tk _ => ?_) (fun a oe cls d pn hz hfl => ?_)), ?_⟩
  · refine ⟨fun pins s' σ H' D I h' => ?_⟩
    obtain ⟨Ech, hW, h1, h2, h3⟩ := h'
    have hp := act W pn xe Ech p2 p3 tk hW
    exact (pss_one (ps_ret (pos := p5) (pe_lst (pos := p4) (pa_cons (pe_str (x := "returned") (j := j) (pos := p1)) (pa_cons hp pa_nil))))).run pins s' σ H' D I ⟨h1, h2, h3⟩
  · refine ⟨fun pins s' σ H' D I h' => ?_⟩
    refine PSs.run (t := tKF X.K (a, oe)) ?_ pins s' σ H' D I (h' oe hz hfl I.len)
    refine pss_one (ps_ret (pe_op op_cat (pe_lst (pa_cons (pe_fnP (p := (a, oe)) hk pbk List.mem_cons_self ?_ hg g4 (pa_cons (pe_var (i := 1) rfl (.inl g6)) pa_nil)) pa_nil)) (pe_fnP (p := (a, oe)) hf pbf List.mem_cons_self ?_ hg g5 (pa_cons (pe_var (i := 1) rfl (.inl g6)) pa_nil))))
    · exact rmH k1 (by omega)
    · exact rmH k2 (by omega)
  · refine ⟨fun cls d H' => CaughtC X.K cls d H' Q, fun cls d σ' H' hcc => ?_, rfl, hc, h⟩
    obtain ⟨e, y, dd, he, rfl, rfl, hdd, kq⟩ := hcc
    refine ⟨true, hx e he, fun _ a ha oe hz hfl hl => ?_, nofun⟩
    have hget : (σ'.set 1 (some (.ref a)))[1]? = some (some (.ref a)) := by
      rw [List.length_set] at hl
      rw [List.getElem?_set_self (by omega)]
    refine ⟨.ref a, hget, e, y, _, rfl, he, ⟨hz, hfl, hdd⟩, fun H1 s1 => ?_⟩
    refine ⟨by show 1 ≤ sizeLine; rw [sizeLine_eq]; decide, fun l hl1 => ?_⟩
    have s2 := same_step (u := .lst [.str e.2.2]) s1 hl1
    refine ⟨.ref a, hget, e, y, _, rfl, he, ⟨hz, hfl, hdd.same s2⟩, fun l2 H3 s3 hl2 => ?_⟩
    refine ⟨l, l2, [.str e.2.2], _, rfl, rfl, s3 _ _ upd_same, hl2, ?_, fun p hp => ?_⟩
    · have : (fldL y d).length ≤ 1 := by cases d <;> simp [fldL]
      rw [sizeLine_eq]
      simp only [List.length_cons, List.length_nil]
      omega
    exact kq p _ (same_step (s2.trans s3) hp) upd_same
end TP
namespace TP
open PySem PySem.Spec PyProof.Rows L2
theorem ExcC.xfo {K : PySem.W.Frag} {D : Addr} (h : ExcC K D) : XfC K D := ⟨h.hg, h.hk, h.hs, h.hd⟩
theorem exhB_ok {K : PySem.W.Frag} {C : Str} (c : exhB K C = true) : ExcC K (He.ga K C) := by
  unfold exhB at c
  simp only [Bool.and_eq_true, decide_eq_true_eq] at c
  obtain ⟨c4, d1, d2, d3, d4, d5, d6, d7⟩ := c
  exact ⟨He.eqO_ok d1, He.eqO_ok d2, c4, d3, He.eqO_ok d4, He.eqO_ok d5, d6, d7⟩
structure ExF (K : PySem.W.Frag) (mg : Str → Option Value) : Prop where
  ec : ∀ e ∈ exTabA, ExcC K (He.ga K e.1)
  glo : ∀ C ∈ exLeaf ++ exBase, mg C = some (.ref (He.ga K C))
  kit : ∀ e ∈ exTabA, ∀ C ∈ exLeaf ++ exBase, PySem.W.kitOne K (.ref (He.ga K e.1)) (.ref (He.ga K C)) = some (exIs e C)
  kb : ∀ e ∈ exTabA, PySem.W.kitOne K (.ref (He.ga K e.1)) (.type "ValueError") = some (exIs e "TallyError") ∧ PySem.W.kitOne K (.ref (He.ga K e.1)) (.type "LookupError") = some (exIs e "StateError") ∧ PySem.W.kitOne K (.ref (He.ga K e.1)) (.type "ArithmeticError") = some (exIs e "SizeError")
  na : ∀ e ∈ exTabA, ∀ f ∈ exFlds, PySem.W.findIn K (.ref (He.ga K e.1)) f = some none
  exm : ∀ e ∈ exTabA, PySem.W.exmAny K (.ref (He.ga K e.1)) [.ref (He.ga K "TallyError"), .ref (He.ga K "StateError"), .ref (He.ga K "SizeError")] = some true
  free : mg "ValueError" = none ∧ mg "LookupError" = none ∧ mg "ArithmeticError" = none
theorem exfB_ok {K : PySem.W.Frag} {h : Heap} {mg : Str → Option Value} (X : K.In h) (G : h.Ns mainGlobals mg) (c : exfB K = true) : ExF K mg := by
  obtain ⟨c1, c⟩ := Bool.and_eq_true_iff.mp c
  obtain ⟨c2, c⟩ := Bool.and_eq_true_iff.mp c
  obtain ⟨c3, c⟩ := Bool.and_eq_true_iff.mp c
  obtain ⟨c4, c⟩ := Bool.and_eq_true_iff.mp c
  obtain ⟨c5, c⟩ := Bool.and_eq_true_iff.mp c
  obtain ⟨c6, c⟩ := Bool.and_eq_true_iff.mp c
  obtain ⟨c7, c⟩ := Bool.and_eq_true_iff.mp c
  obtain ⟨c8, c9⟩ := Bool.and_eq_true_iff.mp c
  refine ⟨fun e he => exhB_ok (List.all_eq_true.mp c1 e he), fun C hC => He.glo_ok X G (List.all_eq_true.mp c2 C hC), fun e he C hC => of_decide_eq_true (List.all_eq_true.mp (List.all_eq_true.mp c3 e he) C hC), fun e he => ?_,
    fun e he f hf => He.eqO_ok (List.all_eq_true.mp (List.all_eq_true.mp c5 e he) f hf), fun e he => of_decide_eq_true (List.all_eq_true.mp c6 e he), He.free_ok X G c7, He.free_ok X G c8, He.free_ok X G c9⟩
  obtain ⟨a, b⟩ := Bool.and_eq_true_iff.mp (List.all_eq_true.mp c4 e he)
  obtain ⟨b, d⟩ := Bool.and_eq_true_iff.mp b
  exact ⟨of_decide_eq_true a, of_decide_eq_true b, of_decide_eq_true d⟩
section
variable {K : PySem.W.Frag} {mg : Str → Option Value} {H : Hp} {Q : VK} {p : Addr × Obj} {e : ExE} {y : V} {dd : Option Addr}
theorem HeldS.dx (h : HeldS K p H e y dd) : DxO H dd := fun d z => by
  subst z
  exact ⟨_, h.2.2.2⟩
theorem HeldS.some (h : HeldS K p H e y dd) {f : Str} (hf : e.2.1 = f) (hn : f ≠ "") : ∃ d, dd = .some d ∧ H d = .some (.xd [(e.2.1, y)]) := by
  cases dd with
  | none => exact absurd (hf.symm.trans h.2.2) hn
  | some d => exact ⟨d, rfl, h.2.2.2⟩
theorem w_isP (F : ExF K mg) (he : e ∈ exTabA) (h : HeldS K p H e y dd) {C : Str} (hC : C ∈ exLeaf ++ exBase) (q : Q (.bl (exIs e C)) H) : rIsP K p.1 (He.ga K e.1) dd [.ref p.1, .ref (He.ga K C)] H Q := ⟨_, _, _, rfl, .own _, h.dx, F.kit e he C hC, q⟩
theorem w_isPb (F : ExF K mg) (he : e ∈ exTabA) (h : HeldS K p H e y dd) {T : String} {b : Bool} (hT : PySem.W.kitOne K (.ref (He.ga K e.1)) (.type T) = some b) (q : Q (.bl b) H) : rIsP K p.1 (He.ga K e.1) dd [.ref p.1, .ty T] H Q := ⟨_, _, _, rfl, .ty T, h.dx, hT, q⟩
theorem kitAny_of (F : ExF K mg) (he : e ∈ exTabA) : ∀ {cs : List Str}, (∀ C ∈ cs, C ∈ exLeaf ++ exBase) → PySem.W.kitAny K (.ref (He.ga K e.1)) (cs.map fun C => Value.ref (He.ga K C)) = some (cs.any (exIs e))
  | [], _ => kitAny_nil
  | C :: cs, h => by
    have i := kitAny_of F he (cs := cs) fun D hD => h D (List.mem_cons_of_mem _ hD)
    refine kitAny_cons (F.kit e he C (h C List.mem_cons_self)) (fun hb => ?_) fun hb => ?_
    · rw [i, List.any_cons, hb, Bool.false_or]
    · rw [List.any_cons, hb, Bool.true_or]
theorem cls_pairs (K : PySem.W.Frag) : ∀ cs : List Str, Paired ClsV (cs.map fun C => V.ref (He.ga K C)) (cs.map fun C => Value.ref (He.ga K C))
  | [] => .nil
  | _ :: cs => .cons (.own _) (cls_pairs K cs)
theorem w_isPT (F : ExF K mg) (he : e ∈ exTabA) (h : HeldS K p H e y dd) {tp : Addr} {cs : List Str} (hT : H tp = some (.tup (cs.map fun C => V.ref (He.ga K C)))) (hC : ∀ C ∈ cs, C ∈ exLeaf ++ exBase) (q : Q (.bl (cs.any (exIs e))) H) : rIsPT K p.1 (He.ga K e.1) dd [.ref p.1, .ref tp] H Q :=
  ⟨tp, _, _, _, rfl, hT, cls_pairs K cs, h.dx, kitAny_of F he hC, q⟩
theorem held_same {H' : Hp} (s : Same H H') (h : HeldS K p H e y dd) : HeldS K p H' e y dd := ⟨h.1, h.2.1, h.2.2.same s⟩
end
theorem boot_LookupError : bootBuiltins "LookupError" = some (.type "LookupError") := by decide +kernel
theorem boot_ArithmeticError : bootBuiltins "ArithmeticError" = some (.type "ArithmeticError") := by decide +kernel
theorem u66H {k : Nat} {A : Around} (r : RoomH k A) : A.units + 66 < cLine := by have := r.un; omega
theorem k_isP {X : Cx} {p : Addr × Obj} {D : Addr} {dd : Option Addr} (K : PySem.W.Frag) (C : ExcC K D) (hh : Held X p D dd) (h : X.K = K := by rfl) : CallR X (.builtin "isinstance") (rIsP K p.1 D dd) := by subst h; exact call_isP C hh
theorem k_isPT {X : Cx} {p : Addr × Obj} {D : Addr} {dd : Option Addr} (K : PySem.W.Frag) (C : ExcC K D) (hh : Held X p D dd) (h : X.K = K := by rfl) : CallR X (.builtin "isinstance") (rIsPT K p.1 D dd) := by subst h; exact call_isPT C hh
theorem k_xp {X : Cx} {p : Addr × Obj} {D : Addr} {dd : Option Addr} {e : Expr} {te : TE} {pos : Pos} {n : Str} (K : PySem.W.Frag) (T : XfC K D) (hno : PySem.W.findIn K (.ref D) n = some none) (hh : Held X p D dd) (he : PE X e te) (h : X.K = K := by rfl) (hb : attributeBase e n X.env (eval e X.env) = eval e X.env := by rfl) :
    PE X (.Attribute e n pos) (tXp p.1 dd n te) := by subst h; exact pe_xp T hno hh he hb
theorem boot_ValueError : bootBuiltins "ValueError" = some (.type "ValueError") := by decide +kernel
theorem ex_fld : ∀ e ∈ exTabA, ∀ c ∈ exTabA, exIs e c.1 = true → e.2.1 = c.2.1 := by decide +kernel
theorem lk_self (f : Str) (y : V) : ([(f, y)] : List (Str × V)).lookup f = some y := by simp [List.lookup]
def exOth : List Str := ["InvalidName", "InvalidTimes", "InvalidText", "InvalidNumber", "InvalidSlots", "InvalidSize", "InvalidLine"]
theorem ex_oth : ∀ e ∈ exTabA, exOth.contains e.1 = true → exIs e "InvalidName" = false → exIs e "InvalidTimes" = false → exIs e "InvalidText" = false → exIs e "InvalidNumber" = false → exIs e "InvalidSlots" = false → exIs e "InvalidSize" = false → exIs e "InvalidLine" = true := by decide +kernel
theorem ex_none : ∀ e ∈ exTabA, e.2.1 = "" → exIs e "InvalidLine" = false := by decide +kernel
theorem ex_first : ∀ e ∈ exTabA, (["InvalidCounts", "InvalidSummary", "InvalidOrder", "InvalidPlan"] : List Str).any (exIs e) = true → e.2.1 = "index" := by decide +kernel
theorem ex_second : ∀ e ∈ exTabA, (["InvalidIndex", "InvalidAction"] : List Str).any (exIs e) = true → e.2.1 = "index" := by decide +kernel
theorem ex_cap : ∀ e ∈ exTabA, (["InvalidCapacity", "CapacitiesDiffer"] : List Str).any (exIs e) = true → e.2.1 = "capacity" := by decide +kernel
theorem ex_many : ∀ e ∈ exTabA, (["TooManyNames", "TooManyActions"] : List Str).any (exIs e) = true → e.2.1 = "found" := by decide +kernel
theorem ex_rest : ∀ e ∈ exTabA, (["InvalidCounts", "InvalidSummary", "InvalidOrder", "InvalidPlan"] : List Str).any (exIs e) = false → (["InvalidIndex", "InvalidAction"] : List Str).any (exIs e) = false → exIs e "NotASummary" = false → (["InvalidCapacity", "CapacitiesDiffer"] : List Str).any (exIs e) = false → (["TooManyNames", "TooManyActions"] : List Str).any (exIs e) = false → exOth.contains e.1 = true ∨ e.2.1 = "" := by decide +kernel
def spFieldsO (K : PySem.W.Frag) : Addr × Obj → Sp := fun p vs H Q _ => ∃ (e : ExE) (y : V) (dd : Option Addr), vs = [.ref p.1] ∧ e ∈ exTabA ∧ HeldS K p H e y dd ∧ (exOth.contains e.1 = true ∨ e.2.1 = "") ∧ ∀ l H', Same H H' → H' l = some (.lst (fldL y dd)) → Q (.ref l) H'
theorem w_xp {a : Addr} {do_ : Option Addr} {f : Str} {te : TE} {σ : L2.St} {H : Hp} {Q : VK} (h : te σ H fun x H1 => x = .ref a ∧ ∃ (dd : Addr) (fs : List (Str × V)) (v : V), do_ = some dd ∧ H1 dd = some (.xd fs) ∧ fs.lookup f = some v ∧ Q v H1) : tXp a do_ f te σ H Q := h
end TP
namespace TP
open PySem PySem.Spec PyProof.Rows L2
def rCntF (K : PySem.W.Frag) : V → List V → Hp → VK → Prop := fun x xs H Q => ∃ (a : Addr) (ys : List V) (y : V), x = .ref a ∧ xs = [y] ∧ SqL K H a ys ∧ flatV y = true ∧ ys.all flatV = true ∧ Q (.int (ys.countP (fun z => eqV z y) : Nat)) H
theorem eqU_count {y : V} : ∀ {ys : List V} {us : List Value}, Vals ys us → ys.all flatV = true → us.countP (eqU y) = ys.countP fun z => eqV z y
  | _, _, .nil, _ => rfl
  | z :: ys, u :: us, .cons r rs, h => by
    rw [List.all_cons, Bool.and_eq_true] at h
    rw [List.countP_cons, List.countP_cons, eqU_count rs h.2, eqU_of r h.1]
theorem mt_countF {X : Cx} : MtR X "list.count" (rCntF X.K) := by
  intro pins s σ H x xs v us Q I rx rxs h
  obtain ⟨a, ys, y, rfl, rfl, hs, fy, fys, q⟩ := h
  cases rx
  cases rxs with
  | cons ry rt =>
    rename_i uy ut
    cases rt
    obtain ⟨its, rv, ⟨⟨cls, dd, data, sl⟩, n, ho, hc, hdn, hd⟩, hlen⟩ := I.list hs
    simp only at hc hd
    subst hc hd
    refine call_meets PySem.F.slot_list_count ⟨_, ho, rfl⟩ PySem.F.entry_list_count (PySem.F.args_list_count_2 _ _)
      (SeqAt.list_countAt a its.toArray n dd sl uy (eqU y)) ⟨ho, fun u' hu' => mem_eqAt ry fy rv fys u' (by simpa using hu'), ?_⟩
    have ec : its.toArray.toList.countP (eqU y) = ys.countP fun z => eqV z y := by
      rw [List.toList_toArray]; exact eqU_count rv fys
    refine ⟨.int (ys.countP (fun z => eqV z y) : Nat), H, I.tok _, ⟨s.toks, ?_⟩, q⟩
    show Value.int ((its.toArray.toList.countP (eqU y) : Nat) : Int) s.toks = _
    rw [ec]
theorem k_countF {X : Cx} (K : PySem.W.Frag) (h : X.K = K := by rfl) : MtR X "list.count" (rCntF K) := by subst h; exact mt_countF
theorem k_index {X : Cx} (K : PySem.W.Frag) (h : X.K = K := by rfl) : MtR X "list.index" (rIndex K) := by subst h; exact mt_index
theorem w_catG {H : Hp} {Q : VK} {l b : Addr} {xs zs : List V} (h1 : H l = some (.lst xs)) (h2 : H b = some (.lst zs)) (hz : xs.length + zs.length ≤ sizeLine) (h : ∀ p G, Same H G → G p = some (.lst (xs ++ zs)) → Q (.ref p) G) : rCat (.ref l) (.ref b) H Q := w_cat h1 h2 hz fun p hp => h p _ (same_new hp) upd_same
theorem w_allocLG {H : Hp} {Q : VK} {xs : List V} (hz : xs.length.ble 100000 = true) (h : ∀ p G, Same H G → G p = some (.lst xs) → Q (.ref p) G) : AllocL xs H Q := w_allocL hz fun p hp => h p _ (same_new hp) upd_same
def exAt (e : ExE) : Nat := exLeaf.findIdx (exIs e)
def exBls (e : ExE) : List V := exLeaf.map fun C => V.bl (exIs e C)
theorem ex_cnt : ∀ e ∈ exTabA, (exBls e).countP (fun z => eqV z (.bl true)) = 1 := by decide +kernel
theorem ex_flat (e : ExE) : (exBls e).all flatV = true := by
  unfold exBls
  rw [List.all_map]
  exact List.all_eq_true.mpr fun C _ => rfl
theorem ex_hit : ∀ e ∈ exTabA, exAt e < 20 ∧ (exLeaf.map (exIs e))[exAt e]? = some true := by decide +kernel
theorem ex_miss : ∀ e ∈ exTabA, ((exLeaf.map (exIs e)).take (exAt e)).all (fun b => !b) = true := by decide +kernel
def exWords : Str := "capacity name times counts summary order plan text size number slots index action line notsummary differ busy undo names actions"
theorem ex_word : ∀ e ∈ exTabA, (Txt.split exWords " ")[exAt e]? = some e.2.2 := by decide +kernel
theorem ex_bases : ∀ e ∈ exTabA, exIs e "TallyError" = decide (((exAt e : Nat) : Int) < 15) ∧ exIs e "StateError" = (decide (14 < ((exAt e : Nat) : Int)) && decide (((exAt e : Nat) : Int) < 18)) ∧ exIs e "SizeError" = decide (17 < ((exAt e : Nat) : Int)) := by decide +kernel
end TP
namespace TP
open PySem PySem.Spec PyProof.Rows L2 LamX
theorem Same.x {H H' : Hp} (s : Same H H') : ExtN H H' := ExtN.of s
theorem sql_x {K : PySem.W.Frag} {H H' : Hp} {a : Addr} {xs : List V} (s : ExtN H H') (h : SqL K H a xs) : SqL K H' a xs := by
  rcases h with (h | ⟨o, h⟩) | h
  · exact .inl (.inl (s _ _ h nofun))
  · exact .inl (.inr ⟨o, s _ _ h nofun⟩)
  · exact .inr h
theorem sqt_x {K : PySem.W.Frag} {H H' : Hp} {a : Addr} {xs : List V} (s : ExtN H H') (h : SqT K H a xs) : SqT K H' a xs := by
  rcases h with (h | ⟨o, h⟩) | h
  · exact .inl (.inl (s _ _ h nofun))
  · exact .inl (.inr ⟨o, s _ _ h nofun⟩)
  · exact .inr h
mutual
theorem dp_x {K : PySem.W.Frag} {H H' : Hp} (s : ExtN H H') : ∀ {v : V} {d : PyData}, Dp K H v d → Dp K H' v d
  | _, _, .non => .non
  | _, _, .bl b => .bl b
  | _, _, .int i => .int i
  | _, _, .str x => .str x
  | _, _, .lst h r => .lst (sql_x s h) (dps_x s r)
  | _, _, .tup h r => .tup (sqt_x s h) (dps_x s r)
theorem dps_x {K : PySem.W.Frag} {H H' : Hp} (s : ExtN H H') : ∀ {vs : List V} {ds : List PyData}, DpAll K H vs ds → DpAll K H' vs ds
  | _, _, .nil => .nil
  | _, _, .cons h r => .cons (dp_x s h) (dps_x s r)
end
theorem lst_x {H H' : Hp} {a : Addr} {xs : List V} (s : ExtN H H') (h : H a = some (.lst xs)) : H' a = some (.lst xs) := s _ _ h nofun
theorem dk_x {H H' : Hp} {a : Addr} {kvs : List (Key × V)} (s : ExtN H H') (h : H a = some (.dK kvs)) : H' a = some (.dK kvs) := s _ _ h nofun
theorem pool_x {H H' : Hp} {p : Addr} (s : ExtN H H') (h : H p = some (poolO p)) : H' p = some (poolO p) := s _ _ h fun ps z => by unfold poolO at z; cases z
theorem tabs_upd {T : List (Addr × Str)} {H : Hp} {D : Addr} {xs ys : List V} (t : Tabs T H) (hD : H D = some (.lst xs)) : Tabs T (upd H D (.lst ys)) := fun p hp => by
  obtain ⟨ps, h1, h2, h3⟩ := t p hp
  refine ⟨ps, ?_, h2, fun pos cv hc => ?_⟩
  · rw [upd_ne (fun z => by rw [z, hD] at h1; cases h1)]; exact h1
  · obtain ⟨c, e1, e2⟩ := h3 pos cv hc
    exact ⟨c, e1, by rw [upd_ne (fun z => by rw [z, hD] at e2; cases e2)]; exact e2⟩
theorem x_mut {H H' : Hp} {D : Addr} {o : HO} (s : ExtN H H') (hD : H D = none) : ExtN H (upd H' D o) := fun b u e n => by
  rw [upd_ne (fun z => by rw [z, hD] at e; cases e)]; exact s b u e n
section
variable {J : It} {n : Nat} {G : Hp → Prop} {Y : Nat → Hp → V → Hp → Prop} {g : TG} {te : TE} {vs : List Nat} {σ : L2.St} {H1 : Hp} {D : Addr} {Q : VK}
theorem lc_mapX (w : Walk J n G Y) (T : List (Addr × Str)) (hn : n ≤ 100000) (f : Nat → V → Prop) (hD : H1 D = none) (hT : Tabs T H1) (hG : ∀ H, ExtN H1 H → G H)
    (hs : ∀ i x H H', i < n → ExtN H1 H → Tabs T H → Y i H x H' → ∀ Qy : VK, (∀ y H4, ExtN H H4 → Tabs T H4 → f i y → Qy y H4) → g x (wipe σ vs) H' fun σ2 H2 => wipe σ2 vs = wipe σ vs ∧ te σ2 H2 Qy)
    (hd : ∀ acc H, ExtN H1 H → Tabs T H → H D = some (.lst acc) → acc.length = n → (∀ i y, acc[i]? = some y → f i y) → Q (.ref D) H)
    (mono : ∀ {x σ H} {Q Q' : L2.St → Hp → Prop}, (∀ σ H, Q σ H → Q' σ H) → g x σ H Q → g x σ H Q') : LcOk J g tYes te vs σ H1 D Q := by
  refine lc_it w (fun i H => ∃ acc, ExtN H1 H ∧ Tabs T H ∧ H D = some (.lst acc) ∧ acc.length = i ∧ ∀ (j : Nat) (y : V), acc[j]? = some y → f j y) ⟨[], Same.x (same_new hD), hT.ext (same_new hD), upd_same, rfl, fun j y e => by simp at e⟩ (fun i H _ ⟨_, s, _⟩ => hG H s) (fun i x H H' hi ⟨acc, s, t, e, l, a⟩ hy => ?_) fun H ⟨acc, s, t, e, l, a⟩ => hd acc H s t e l a
  refine mono (fun σ2 H2 q => ⟨q.1, w_yes (w_iteT q.2)⟩) (hs i x H H' hi s t hy _ fun y H4 s4 t4 fy => ?_)
  have e4 := lst_x s4 e
  refine ⟨acc, e4, sz_lt (by omega), acc ++ [y], x_mut (s.trans s4) hD, tabs_upd t4 e4, upd_same, by simp [l], fun j z ej => ?_⟩
  by_cases q : j < acc.length
  · rw [List.getElem?_append_left q] at ej; exact a j z ej
  · rw [List.getElem?_append_right (Nat.le_of_not_lt q)] at ej
    have q2 : j = acc.length := by
      obtain ⟨h1, _⟩ := List.getElem?_eq_some_iff.mp ej
      simp at h1; omega
    subst q2
    simp at ej
    subst ej
    rw [l]; exact fy
end
end TP
namespace TP
open PySem PySem.Spec PyProof.Rows L2 LamX
section
variable {X : Cx} {pins : List (Addr × Obj)} {σ : L2.St} {H HZ : Hp} {s s1 : Shared}
theorem pe_actG {CXg : CXT} {Eg : XK} {Ng : List Str} {qg : Str} {sg : Scope} {g f c' : Addr} {cdg pm ctv : Value} {params : Arguments} {body : Expr} {scope : Scope} {k i : Nat} {a : Str} {pn : List (Addr × Obj)} {xe : Value → Shared → Prop} {W : WX} {E : XK} {tb : TE} {p1 p2 : Pos}
    (I : Inv X pins σ H s) (L : LamS X.env.scope scope) (hf : s.heap.get? f = some (PySem.W.kla_obj "<lambda>" (X.env.qual ++ "<lambda>") params body scope (cloFrom X.env.cells scope.names []) pm c' ctv)) (hfn : H f = none) (hfr : f ∉ frs X.stack)
    (hbind : bindArgs (PySem.W.kla_fn "<lambda>" (X.env.qual ++ "<lambda>") params body scope (cloFrom X.env.cells scope.names []) pm (.ref c') ctv) ⟨[], []⟩ = pure [])
    (tk : Takes ((cxOf CXg X.prog X.w X.K X.mg X.base Ng qg sg g cdg X.A X.stack s H Eg).tr pn xe) W) (hW : ∀ cls d σ' H', E cls d H' → W cls d σ' H') (hgX : X.A.guards = some []) (hr : Room (k + 1) (X.A.deeper (envOfC qg sg s.heap.objs.size g cdg)))
    (hbody : ∀ (A : Around) (outer : List Env) (s : Shared) (H : Hp), A.guards = some [] → Room k (A.deeper (lamEnv X scope s.heap.objs.size f c')) → PE (lamCx X A outer s H E scope f c') body tb)
    (hN : Ng[i]? = some a) (hv : Vis sg a) (hd : (a == ("__debug__" : Str)) = false := by decide) (hcd : (a == ("__classdict__" : Str)) = false := by decide) :
    PE ((cxOf CXg X.prog X.w X.K X.mg X.base Ng qg sg g cdg X.A X.stack s H Eg).tr pn xe) (.Call (.Name a p1) [] [] p2)
      (fun σZ HZ Q => σZ[i]? = some (some (.ref f)) ∧ HZ c' = some (CodeO c' (X.env.qual ++ "<lambda>")) ∧ tb σ HZ Q) := by
  refine ⟨fun pinsZ sZ σZ HZ Q IZ h => ?_⟩
  obtain ⟨hs, hc, ht⟩ := h
  refine wpAny_Call_Name_kw (thn ((pe_var (pos := p1) (i := i) hN hv hd hcd).run pinsZ sZ σZ HZ (fun v H1 => v = .ref f ∧ H1 = HZ) IZ ⟨.ref f, hs, rfl, rfl⟩) fun u s1 ⟨v, H1, I1, r1, q1⟩ => ?_)
  obtain ⟨ev, eH⟩ := q1
  subst ev
  rw [eH] at I1
  obtain rfl : u = Value.ref f := r1
  have of1 : s1.heap.get? f = some (PySem.W.kla_obj "<lambda>" (X.env.qual ++ "<lambda>") params body scope (cloFrom X.env.cells scope.names []) pm c' ctv) := I1.base.keep f _ hf hfn hfr (fun z => nomatch (show f ∈ ([] : List Addr) from z))
  refine PySem.W.callWith_F0 ⟨_, _, _, _, of1⟩ ?_
  have un : Un (frs X.stack) [] H HZ s.heap s1.heap := I1.base
  obtain ⟨⟨oc, vs, t, hoc, hdc, hvc⟩, _, _⟩ := I1.hok c' _ hc
  have rc : codeAny (model X.prog X.w) (X.A.deeper (envOfC qg sg s.heap.objs.size g cdg)) (.call (.ref f) ⟨[], []⟩) (CR (L2.CX X.prog X.w) (envOfC qg sg s.heap.objs.size g cdg :: X.stack) X.prog X.w HZ s1 Q E) s1 := by
    refine PySem.W.kla_callFunE hr.depth of1 rfl L.co L.gen rfl ⟨c', oc, vs, t, rfl, hoc, hdc, hvc⟩ ?_
    rw [hbind]
    refine wpAny_pure (wpAny_newFunctionEnv (fun y hy => (L.own y hy).2) (fun y hy => absurd hy (by simp)) (fun h₁ hns hsb => ⟨I1.nolimit.fresh _ hsb, ?_⟩) L.kind)
    show codeAny _ _ (.expr body (lamEnv X scope s1.heap.objs.size f c')) _ _
    have kp : ∀ b o, s1.heap.get? b = some o → h₁.get? b = some o := fun b o e => hsb.extBut b o (Nat.ne_of_lt (Heap.lt_size e)) (Heap.get?_push_of_some _ e)
    have J : Inv (lamCx X (X.A.deeper (envOfC qg sg s.heap.objs.size g cdg)) (envOfC qg sg s.heap.objs.size g cdg :: X.stack) s1 HZ E scope f c') [] σ HZ { s1 with heap := h₁, toks := s1.toks + ([] : List (Str × Value)).length } :=
      lam_start2 I L I1.env0 hr.hd un hns kp
    refine PySem.W.kla_codeExpr (wpAny_mono ((hbody _ _ s1 HZ (show (X.A.deeper (envOfC qg sg s.heap.objs.size g cdg)).guards = some [] from hgX) (hr.deeper _)).run [] _ _ HZ Q J ht) (fun v s' hq => ?_) fun e s' hq => hq)
    obtain ⟨w', H', J', rv, q⟩ := hq
    exact ⟨w', H', J'.os, J'.bare, J'.base, J'.hok, rv, q⟩
  have hx : Passes (L2.CX X.prog X.w) ((cxOf CXg X.prog X.w X.K X.mg X.base Ng qg sg g cdg X.A X.stack s H Eg).tr pn xe) E := passes_call tk hW
  refine wpAny_call (codeAny_mono rc fun r s' hq => ?_)
  cases r with
  | error e => exact hx pinsZ σZ HZ s1 e s' I1 hq
  | ok fl =>
    cases fl with
    | ret u => exact I1.after hq
    | next => exact False.elim hq
    | brk => exact False.elim hq
    | cont => exact False.elim hq
end
section
variable {X : Cx}
theorem pe_lamcallG {T : List (Addr × Str)} {TT : (XK → Hp → VK → Prop) → Hp → VK → Prop} {x a : Str} {g c P : Addr} {k : Nat} {pg : Arguments} {bg : List Stmt} {sg : Scope} {dV kV doc pm cdv ct oc : Value} {an od : Option Addr} {osl : Array (Option Value)} {Ng : List Str}
    {params : Arguments} {body : Expr} {scope : Scope} {t : XK → TE} {p lpos pos : Pos} (hg : Gl X x) (hm : X.mg x = some (.ref g)) (hk : PySem.W.keepIn X.K (.ref g) = true)
    (lk : X.K.lookup g = some ⟨oc, od, .func (PySem.W.fnOf x x pg bg sg dV kV doc pm an cdv ct), osl⟩) (hcg : PySem.W.codeIn X.K cdv x = true) (hb : L2.Binds X.K (PySem.W.fnOf x x pg bg sg dV kV doc pm an cdv ct) [a] []) (Sg : FnScope Ng [a] sg) (hNg : Ng[0]? = some a) (hva : Vis sg a)
    (hG : GivesTo X Ng x sg g cdv bg a (X.env.qual ++ "<lambda>") TT)
    (TB : TabB X.base X.mg c P) (hcode : X.env.code = .ref c) (hmT : (P, X.env.qual ++ "<lambda>") ∈ T) (hu : ∀ p ∈ T, p.1 = P → p.2 = X.env.qual ++ "<lambda>") (hgX : X.A.guards = some []) (hr : Room (k + 2) X.A) (L : LamS X.env.scope scope) (hdef : defaultsOf params X.env = ([], []))
    (hbind : ∀ (q : Str) (cl : List (Str × Addr)) (pm cv ctv : Value), bindArgs (PySem.W.kla_fn "<lambda>" q params body scope cl pm cv ctv) ⟨[], []⟩ = pure [])
    (hbody : ∀ (A : Around) (outer : List Env) (s : Shared) (H : Hp) (E : XK) (f c' : Addr), A.guards = some [] → Room k (A.deeper (lamEnv X scope s.heap.objs.size f c')) → PE (lamCx X A outer s H E scope f c') body (t E))
    (hdb : (x == ("__debug__" : Str)) = false := by decide) (hd : (a == ("__debug__" : Str)) = false := by decide) (hcd : (a == ("__classdict__" : Str)) = false := by decide) :
    PE X (.Call (.Name x p) [.Lambda params body scope lpos] [] pos) (tLam T TT t) := by
  refine ⟨fun pins s σ H Q I h => ?_⟩
  obtain ⟨hT, h⟩ := h
  refine wpAny_Call_Name_kw (ld_glob I hg hm ?_ hdb)
  refine PySem.W.callWith_K (h₀ := X.base) I.ok.mod.kin hk ?_ (by rfl) (by rfl)
  show wpAny _ _ (spliced ((false, eval (.Lambda params body scope lpos) X.env) :: backTo pos (starEach [] X.env))) _ _ s
  refine Calls.spliced_cons (lam_make2 I TB hcode hmT hu hT hdef (L.has I.ok) fun f c' pm' ctv H1 s' I1 eN T1 hf hfn hfr hco => ?_)
  refine Calls.spliced_nil ⟨I1.kIn, ?_⟩
  have rc : codeAny (model X.prog X.w) X.A (.call (.ref g) ⟨[.ref f], []⟩) (CR C8.CX0 X.stack X.prog X.w H1 s' Q C8.E0) s' := by
    refine run_ofS (N := Ng) (ps := [a]) (us := [.ref f]) (vs := [.ref f]) lk hcg Sg hr I1.env0 (hb s' [.ref f] I1.kIn rfl) (.cons rfl .nil) rfl fun hr' => ?_
    obtain ⟨t', ht', hq'⟩ := hG f c' s' H1 Q (fun E H' Q' => t E σ H' Q') (fun W pn xe E p1 p2 tk hW => pe_actG (i := 0) I1 L hf hfn hfr (hbind _ _ _ _ _) tk hW hgX hr' (fun A outer s H hg2 hr2 => hbody A outer s H E f c' hg2 hr2) hNg hva hd hcd) hco (h H1 eN T1)
    exact ⟨t', ht'.nox, hq'⟩
  refine wpAny_call (codeAny_mono rc fun r s2 hq => ?_)
  cases r with
  | error e => exact (show False from hq).elim
  | ok fl =>
    cases fl with
    | ret u => exact I1.after hq
    | next => exact False.elim hq
    | brk => exact False.elim hq
    | cont => exact False.elim hq
end
theorem pe_caught {X : Cx} {T : List (Addr × Str)} {P c : Addr} {k : Nat} {stc : Stmt} {params : Arguments} {body : Expr} {scope : Scope} {t : XK → TE} {p lpos pos : Pos} {qq : Str}
    (D : Dfd X.K X.mg "_law_caught" stc) (Sg : FnScope ["_law_call", "_law_e"] ["_law_call"] (defScope stc)) (pb : PosB "_law_caught" stc ["_law_call"]) (hva : Vis (defScope stc) "_law_call") (hg : Gl X "_law_caught")
    (hG : ∀ cdv, GivesTo X ["_law_call", "_law_e"] "_law_caught" (defScope stc) (He.ga X.K "_law_caught") cdv (defBody stc) "_law_call" qq (TCaught X.K))
    (TB : TabB X.base X.mg c P) (hcode : X.env.code = .ref c) (hmT : (P, qq) ∈ T) (hu : ∀ p ∈ T, p.1 = P → p.2 = qq) (hq : X.env.qual ++ "<lambda>" = qq) (hgX : X.A.guards = some []) (hr : Room (k + 2) X.A) (L : LamS X.env.scope scope) (hdef : defaultsOf params X.env = ([], []))
    (hbind : ∀ (q : Str) (cl : List (Str × Addr)) (pm cv ctv : Value), bindArgs (PySem.W.kla_fn "<lambda>" q params body scope cl pm cv ctv) ⟨[], []⟩ = pure [])
    (hbody : ∀ (A : Around) (outer : List Env) (s : Shared) (H : Hp) (E : XK) (f c' : Addr), A.guards = some [] → Room k (A.deeper (lamEnv X scope s.heap.objs.size f c')) → PE (lamCx X A outer s H E scope f c') body (t E)) :
    PE X (.Call (.Name "_law_caught" p) [.Lambda params body scope lpos] [] pos) (tLam T (TCaught X.K) t) := by
  subst hq
  obtain ⟨fd, F⟩ := D.ex
  have kp := FunD.kp F
  obtain ⟨oc, od, dV, kV, doc, pm, an, cdv, ct, osl, rfl, lk, hcd, _, _⟩ := F.ex
  obtain ⟨kV2, doc2, pm2, an2, cdv2, ct2, efd⟩ := FunD.noDef F
  refine pe_lamcallG hg D.glo kp lk hcd (Binds.all fun us hl => ?_) Sg rfl hva (hG cdv) TB hcode hmT hu hgX hr L hdef hbind hbody
  rw [efd]
  exact pb kV2 doc2 pm2 an2 cdv2 ct2 us hl
end TP
namespace TP
open PySem PySem.Spec PyProof.Rows L2 LamX
theorem takesL {X : Cx} {A : Around} {outer : List Env} {s : Shared} {H : Hp} {E : XK} {scope : Scope} {f c' : Addr} : Takes (lamCx X A outer s H E scope f c') (fun cls d _ H' => E cls d H') := takes_of rfl rfl rfl rfl
theorem w_told {H : Hp} {Q : VK} {v : V} (h : ∀ p H', Same H H' → H' p = some (.lst [.str "returned", v]) → Q (.ref p) H') : LstC [.str "returned", v] H Q := ⟨by show 2 ≤ sizeLine; rw [sizeLine_eq]; decide, fun p hp => h p _ (same_new hp) upd_same⟩
theorem w_held {K : PySem.W.Frag} {H : Hp} {Q : VK} {C f wd : Str} {y : V} {dd : Addr} (he : (C, f, wd) ∈ exTab) (hd : H dd = some (.xd [(f, y)])) (h : ∀ l H', Same H H' → H' l = some (.lst [.str wd, y]) → Q (.ref l) H') : CaughtC K (.ref (He.ga K C)) (some dd) H Q := ⟨(C, f, wd), y, some dd, exTab_a he, rfl, rfl, ⟨exTab_f _ he, hd⟩, h⟩
theorem x_mut2 {H He H' : Hp} {R : Addr} {o : HO} (s : ExtN H H') (h0 : ExtN H He) (hR : He R = none) : ExtN H (upd H' R o) := fun b u e n => by
  rw [upd_ne (fun z => by
    rw [z] at e
    have h1 := h0 _ _ e n
    rw [hR] at h1
    cases h1)]
  exact s b u e n
theorem w_caughtV {K : PySem.W.Frag} {T : List (Addr × Str)} {t : XK → TE} {σ : L2.St} {H : Hp} {Q : VK} (wd : Str) (R : V → Prop) (hT : Tabs T H) (main : ∀ l y H', ExtN H H' → Tabs T H' → H' l = some (.lst [.str wd, y]) → R y → Q (.ref l) H')
    (h : ∀ H1, ExtN H H1 → Tabs T H1 → ∀ Q' : VK, (∀ l y H', ExtN H H' → Tabs T H' → H' l = some (.lst [.str wd, y]) → R y → Q' (.ref l) H') → t (fun cls d H' => CaughtC K cls d H' Q') σ H1 (fun v H2 => LstC [.str "returned", v] H2 Q')) : tLam T (TCaught K) t σ H Q := ⟨hT, fun H1 x T1 => h H1 x T1 Q main⟩
section
variable {P : Program} {w : World} {K : PySem.W.Frag} {mg : Str → Option Value} {base : Heap} {CX : CXT} {k : Nat} {x : Str} {st : Stmt} {N ps : List Str} {sp : Sp}
theorem Dfd.hasL (D : Dfd K mg x st) (S : FnScope N ps (defScope st)) (len : ∀ vs H Q E, sp vs H Q E → vs.length = ps.length)
    (hbody : ∀ (cdv : Value) (A : Around) (outer : List Env) (s : Shared) (H : Hp) (vs : List V) (Q : VK) (E : XK), cdv = .ref (He.cT K (x, none)).1 → Room k (A.deeper (envOfC x (defScope st) s.heap.objs.size (He.ga K x) cdv)) → (A.deeper (envOfC x (defScope st) s.heap.objs.size (He.ga K x) cdv)).guards = some [] → sp vs H Q E →
      ∃ t, PSs (cxOf CX P w K mg base N x (defScope st) (He.ga K x) cdv A outer s H E) (defBody st) t ∧ t { nx := fun _ H' => Q .non H', rt := Q } (L2.start N vs) H) :
    Has P w K mg base CX (k + 1) x st ps sp := by
  obtain ⟨fd, F⟩ := D.ex
  refine ⟨⟨fd, F, ?_⟩, D.glo⟩
  obtain ⟨oc, od, dV, kV, doc, pm, an, cdv, ct, osl, rfl, lk, hcd, _, _⟩ := F.ex
  have hc1 : cdv = .ref (He.cT K (x, none)).1 := by
    obtain ⟨c, e⟩ := He.codeIn_ref hcd
    subst e
    exact congrArg Value.ref (He.codeOf_eq (p := (x, none)) lk rfl).symm
  refine ⟨len, fun A outer s H args us vs Q E hr hg e0 hb r hsp => ?_⟩
  have hl := len _ _ _ _ hsp
  have kx : K.In s.heap := e0.mod.kin.keeps fun b o e => (e0.bs b o e).1
  have nl : s.heap.NoLimit := e0.mod.nolimit.keeps fun b o e => (e0.bs b o e).1
  refine codeAny_call_function hr.depth (kx _ _ lk) rfl S.co S.gen rfl (PySem.W.codeRec_of kx hcd) (hb _ _ _ _ ?_)
  refine wpAny_newFunctionEnv_cells S.kind (fun ⟨n, v⟩ hy => by
    rcases S.par n (List.of_mem_zip hy).1 with q | q
    · exact .inl q
    · exact .inr ⟨q, PySem.W.cellsFrom_some _ _ _ (.inl q)⟩) fun env he s1 ic => ?_
  subst he
  refine ⟨nl.keeps ic.toInCall.keep, codeAny_func ?_⟩
  obtain ⟨t, ht, hq⟩ := hbody cdv A outer s H vs Q E hc1 (hr.deeper _) hg hsp
  have I0 := L2.inv_start (CX := CX) (E := E) S hr.hd e0 hl r ic
  refine wpAny_mono (ht.run [] s1 (L2.start N vs) H _ I0 hq) (fun fl s' hs => ?_) fun e s' hs => hs
  cases fl with
  | ret u =>
    obtain ⟨v, σ', H', J, rv, q⟩ := hs
    exact ⟨v, H', J.os, J.bare, J.base, J.hok, rv, q⟩
  | next =>
    obtain ⟨σ', H', J, q⟩ := hs
    exact ⟨.non, H', J.os, J.bare, J.base, J.hok, rfl, q⟩
  | brk =>
    obtain ⟨_, _, _, q⟩ := hs
    exact q.elim
  | cont =>
    obtain ⟨_, _, _, q⟩ := hs
    exact q.elim
end
end TP
namespace TP
open PySem PySem.Spec PyProof.Rows L2 LamX
mutual
inductive Dx (K : PySem.W.Frag) (H : Hp) : V → PyData → Prop
  | non : Dx K H .non .none
  | bl (b : Bool) : Dx K H (.bl b) (.bool b)
  | int (i : Int) : Dx K H (.int i) (.int i)
  | str (x : Str) : Dx K H (.str x) (.str x)
  | lst {a : Addr} {xs : List V} {ds : List PyData} : SqL K H a xs → DxAll K H xs ds → Dx K H (.ref a) (.list ds)
  | tup {a : Addr} {xs : List V} {ds : List PyData} : SqT K H a xs → DxAll K H xs ds → Dx K H (.ref a) (.tuple ds)
  | dct {a : Addr} : H a = some (.dK []) → Dx K H (.ref a) (.dict [])
inductive DxAll (K : PySem.W.Frag) (H : Hp) : List V → List PyData → Prop
  | nil : DxAll K H [] []
  | cons {v : V} {vs : List V} {d : PyData} {ds : List PyData} : Dx K H v d → DxAll K H vs ds → DxAll K H (v :: vs) (d :: ds)
end
mutual
theorem dp_dx {K : PySem.W.Frag} {H : Hp} : ∀ {v : V} {d : PyData}, Dp K H v d → Dx K H v d
  | _, _, .non => .non
  | _, _, .bl b => .bl b
  | _, _, .int i => .int i
  | _, _, .str x => .str x
  | _, _, .lst h r => .lst h (dps_dx r)
  | _, _, .tup h r => .tup h (dps_dx r)
theorem dps_dx {K : PySem.W.Frag} {H : Hp} : ∀ {vs : List V} {ds : List PyData}, DpAll K H vs ds → DxAll K H vs ds
  | _, _, .nil => .nil
  | _, _, .cons h r => .cons (dp_dx h) (dps_dx r)
end
mutual
theorem dx_x {K : PySem.W.Frag} {H H' : Hp} (s : ExtN H H') : ∀ {v : V} {d : PyData}, Dx K H v d → Dx K H' v d
  | _, _, .non => .non
  | _, _, .bl b => .bl b
  | _, _, .int i => .int i
  | _, _, .str x => .str x
  | _, _, .lst h r => .lst (sql_x s h) (dxs_x s r)
  | _, _, .tup h r => .tup (sqt_x s h) (dxs_x s r)
  | _, _, .dct h => .dct (dk_x s h)
theorem dxs_x {K : PySem.W.Frag} {H H' : Hp} (s : ExtN H H') : ∀ {vs : List V} {ds : List PyData}, DxAll K H vs ds → DxAll K H' vs ds
  | _, _, .nil => .nil
  | _, _, .cons h r => .cons (dx_x s h) (dxs_x s r)
end
theorem dx_same {K : PySem.W.Frag} {H H' : Hp} (s : Same H H') {v : V} {d : PyData} (h : Dx K H v d) : Dx K H' v d := dx_x (ExtN.of s) h
theorem dxs_same {K : PySem.W.Frag} {H H' : Hp} (s : Same H H') {vs : List V} {ds : List PyData} (h : DxAll K H vs ds) : DxAll K H' vs ds := dxs_x (ExtN.of s) h
section
variable {K : PySem.W.Frag} {H : Hp}
theorem dxs_len : ∀ {vs : List V} {ds : List PyData}, DxAll K H vs ds → vs.length = ds.length
  | _, _, .nil => rfl
  | _, _, .cons _ r => by rw [List.length_cons, List.length_cons, dxs_len r]
theorem dxs_get : ∀ {vs : List V} {ds : List PyData} {i : Nat} {v : V}, DxAll K H vs ds → vs[i]? = some v → ∃ d, ds[i]? = some d ∧ Dx K H v d
  | _, _, i, _, .nil, e => by simp at e
  | _, _, 0, _, .cons h _, e => by simp at e; subst e; exact ⟨_, rfl, h⟩
  | _, _, i + 1, v, .cons _ r, e => by
    obtain ⟨d, h1, h2⟩ := dxs_get (i := i) r (by simpa using e)
    exact ⟨d, by simpa using h1, h2⟩
theorem dxs_app : ∀ {vs ws : List V} {ds es : List PyData}, DxAll K H vs ds → DxAll K H ws es → DxAll K H (vs ++ ws) (ds ++ es)
  | _, _, _, _, .nil, h => h
  | _, _, _, _, .cons a r, h => .cons a (dxs_app r h)
theorem dxs_take : ∀ {vs : List V} {ds : List PyData} (n : Nat), DxAll K H vs ds → DxAll K H (vs.take n) (ds.take n)
  | _, _, 0, _ => by simp; exact .nil
  | _, _, n + 1, .nil => by simp; exact .nil
  | _, _, n + 1, .cons h r => by simp; exact .cons h (dxs_take n r)
theorem dxs_drop : ∀ {vs : List V} {ds : List PyData} (n : Nat), DxAll K H vs ds → DxAll K H (vs.drop n) (ds.drop n)
  | _, _, 0, h => by simpa using h
  | _, _, n + 1, .nil => by simp; exact .nil
  | _, _, n + 1, .cons _ r => by simp; exact dxs_drop n r
theorem dx_int_inv {v : V} {i : Int} (h : Dx K H v (.int i)) : v = .int i := by cases h; rfl
theorem dx_str_inv {v : V} {x : Str} (h : Dx K H v (.str x)) : v = .str x := by cases h; rfl
theorem dx_tup_inv {v : V} {ds : List PyData} (h : Dx K H v (.tuple ds)) : ∃ a xs, v = .ref a ∧ SqT K H a xs ∧ DxAll K H xs ds := by cases h with | tup h r => exact ⟨_, _, rfl, h, r⟩
theorem ty_dx {v : V} {d : PyData} (h : Dx K H v d) : TyX K H v (.type (tyD d)) := by
  cases h with
  | non => exact .base .non
  | bl b => exact .base (.bl b)
  | int i => exact .base (.int i)
  | str x => exact .base (.str x)
  | lst h _ =>
    rcases h with (h | ⟨o, h⟩) | ⟨o, its, n, h, c, _⟩
    · exact .base (.lst h)
    · exact .base (.frz h)
    · exact .kList h c
  | tup h _ =>
    rcases h with (h | ⟨o, h⟩) | ⟨o, its, n, h, c, _⟩
    · exact .base (.tup h)
    · exact .fTuple h
    · exact .kTuple h c
  | dct h => exact .base (.dK h)
theorem w_isiX {Q : VK} {v : V} {d : PyData} {T : String} {b : Bool} (h : Dx K H v d) (e : kitB (tyD d) T = some b) (q : Q (.bl b) H) : rIsi K [v, .ty T] H Q := w_isi (ty_dx h) e q
end
def SameM (H H' : Hp) : Prop := ∀ a o, H a = some o → (∀ xs, o ≠ .lst xs) → H' a = some o
theorem SameM.lst {H : Hp} {l : Addr} {xs : List V} {u : HO} (h : H l = some (.lst xs)) : SameM H (upd H l u) := fun a o e n => by
  by_cases z : a = l
  · subst z; rw [h] at e; cases e; exact absurd rfl (n xs)
  · rw [upd_ne z]; exact e
theorem SameM.sqt {K : PySem.W.Frag} {H H' : Hp} {a : Addr} {xs : List V} (s : SameM H H') (h : SqT K H a xs) : SqT K H' a xs := by
  rcases h with (h | ⟨o, h⟩) | h
  · exact .inl (.inl (s _ _ h nofun))
  · exact .inl (.inr ⟨o, s _ _ h nofun⟩)
  · exact .inr h
mutual
def noL : PyData → Bool
  | .list _ => false
  | .tuple ds => noLs ds
  | _ => true
def noLs : List PyData → Bool
  | [] => true
  | d :: r => noL d && noLs r
end
mutual
theorem dx_m {K : PySem.W.Frag} {H H' : Hp} (s : SameM H H') : ∀ {v : V} {d : PyData}, Dx K H v d → noL d = true → Dx K H' v d
  | _, _, .non, _ => .non
  | _, _, .bl b, _ => .bl b
  | _, _, .int i, _ => .int i
  | _, _, .str x, _ => .str x
  | _, _, .lst h r, f => by simp [noL] at f
  | _, _, .tup h r, f => .tup (s.sqt h) (dxs_m s r (by simpa [noL] using f))
  | _, _, .dct h, _ => .dct (s _ _ h nofun)
theorem dxs_m {K : PySem.W.Frag} {H H' : Hp} (s : SameM H H') : ∀ {vs : List V} {ds : List PyData}, DxAll K H vs ds → noLs ds = true → DxAll K H' vs ds
  | _, _, .nil, _ => .nil
  | _, _, .cons h r, f => by
    have f2 := Bool.and_eq_true_iff.mp (show (noL _ && noLs _) = true from f)
    exact .cons (dx_m s h f2.1) (dxs_m s r f2.2)
end
mutual
def rbX : PyData → Nat
  | .none => 5
  | .bool _ => 5
  | .int _ => 1921
  | .str x => 10 * x.length + 2
  | .list ds => rbXs ds + 2
  | .tuple ds => rbXs ds + 3
  | .dict _ => 2
def rbXs : List PyData → Nat
  | [] => 0
  | d :: r => rbX d + 2 + rbXs r
end
mutual
def okX : PyData → Bool
  | .none => true
  | .bool _ => true
  | .int i => decide (i.natAbs.log2 < 1920)
  | .str x => x.cps.toList.all fun c => decide (c < 16 ^ 8)
  | .list ds => okXs ds
  | .tuple ds => okXs ds
  | .dict kvs => kvs.isEmpty
def okXs : List PyData → Bool
  | [] => true
  | d :: r => okX d && okXs r
end
mutual
theorem shown_leX : ∀ d : PyData, okX d = true → d.shown.length ≤ rbX d
  | .none, _ => by simp only [PyData.shown, rbX]; decide
  | .bool b, _ => by cases b <;> simp only [PyData.shown, rbX] <;> decide
  | .int i, h => by
    have h' : i.natAbs.log2 < 1920 := of_decide_eq_true (by simpa [okX] using h)
    simp only [PyData.shown, rbX]
    exact int_text_len_1921 h'
  | .str x, h => by
    simp only [PyData.shown, rbX]
    refine PySem.StrLaws.reprText_len x fun c hc => ?_
    have h' := List.all_eq_true.mp (by simpa only [okX] using h) c hc
    exact of_decide_eq_true h'
  | .list ds, h => by
    have ih := shownAll_leX ds (by simpa [okX] using h)
    simp only [PyData.shown, rbX, listText]
    have h1 := textFrom_le (PyData.shownAll ds) 0 "["
    rw [str_app_len]
    have e1 : (Str.ofString "[").length = 1 := by decide
    have e2 : (Str.ofString "]").length = 1 := by decide
    rw [e1] at h1
    rw [e2]
    omega
  | .tuple ds, h => by
    have ih := shownAll_leX ds (by simpa [okX] using h)
    simp only [PyData.shown, rbX, tupleText]
    rw [str_app_len, str_app_len]
    have h1 := StrLaws.join_length_le (Str.ofString ", ") (PyData.shownAll ds)
    have e0 : (Str.ofString ", ").length = 2 := by decide
    rw [e0] at h1
    have e1 : (Str.ofString "(").length = 1 := by decide
    have e2 : (Str.ofString (if ((PyData.shownAll ds).length == 1) = true then ",)" else ")")).length ≤ 2 := by
      by_cases z : ((PyData.shownAll ds).length == 1) = true
      · rw [if_pos z]; decide
      · rw [if_neg z]; decide
    have e3 : ((PyData.shownAll ds).map fun t => t.length + 2).sum = ((PyData.shownAll ds).map (·.length)).sum + (PyData.shownAll ds).length * 2 := by
      generalize PyData.shownAll ds = l
      induction l with
      | nil => rfl
      | cons a r ih2 => simp only [List.map_cons, List.sum_cons, List.length_cons]; omega
    rw [e1]
    omega
  | .dict [], _ => by simp only [PyData.shown, rbX]; decide
  | .dict (_ :: _), h => by simp [okX] at h
theorem shownAll_leX : ∀ ds : List PyData, okXs ds = true → ((PyData.shownAll ds).map fun t => t.length + 2).sum ≤ rbXs ds
  | [], _ => by simp [PyData.shownAll, rbXs]
  | d :: r, h => by
    have h' := Bool.and_eq_true_iff.mp (show (okX d && okXs r) = true from h)
    have h1 := shown_leX d h'.1
    have h2 := shownAll_leX r h'.2
    simp only [PyData.shownAll, rbXs, List.map_cons, List.sum_cons]
    omega
end
mutual
theorem showable_ofX : ∀ d : PyData, okX d = true → d.showable = true
  | .none, _ => by simp [PyData.showable]
  | .bool b, _ => by simp [PyData.showable]
  | .int i, h => by simp only [PyData.showable]; simpa [okX] using h
  | .str x, _ => by simp [PyData.showable]
  | .list ds, h => by simp only [PyData.showable]; exact showables_ofX ds (by simpa [okX] using h)
  | .tuple ds, h => by simp only [PyData.showable]; exact showables_ofX ds (by simpa [okX] using h)
  | .dict [], _ => by simp [PyData.showable, PyData.showableKv]
  | .dict (_ :: _), h => by simp [okX] at h
theorem showables_ofX : ∀ ds : List PyData, okXs ds = true → PyData.showableAll ds = true
  | [], _ => by simp [PyData.showableAll]
  | d :: r, h => by
    have h' := Bool.and_eq_true_iff.mp (show (okX d && okXs r) = true from h)
    simp [PyData.showableAll, showable_ofX d h'.1, showables_ofX r h'.2]
end
end TP
namespace TP
open PySem PySem.Spec PyProof.Rows L2 LamX
section
variable {X : Cx} {pins : List (Addr × Obj)} {σ : L2.St} {H : Hp} {s : Shared}
theorem dct_reads (I : Inv X pins σ H s) {a : Addr} (h : H a = some (.dK [])) : Reads s.heap (.ref a) (.dict []) (a :: [] ++ []) ∧ sysModules ∉ (a :: [] ++ [] : List Addr) := by
  obtain ⟨_, hsm, vs, hkv, o, es, ep, ho, hx, hd, _, hp, _⟩ := dk_of I.hok h
  have ev : vs = [] := by
    cases hkv
    rfl
  subst ev
  have ee : es.toList = [] := by
    generalize es.toList = l at hp
    cases hp
    rfl
  refine ⟨Reads.dict ho hx.1 hd (by rw [ee]; exact .nil) (by rw [ee]; exact .nil), fun hm => ?_⟩
  have hm : sysModules ∈ [a] := hm
  rw [List.mem_singleton.mp hm] at hsm
  simp at hsm
mutual
theorem Dx.reads (I : Inv X pins σ H s) : ∀ (d : PyData) (v : V) (u : Value), Dx X.K H v d → RelV v u → ∃ as, Reads s.heap u d as ∧ (noL d = true → sysModules ∉ as)
  | .none, _, _, h, r => by
    cases h
    cases r
    exact ⟨_, Reads.none, fun _ => List.not_mem_nil⟩
  | .bool b, _, _, h, r => by
    cases h
    cases r
    exact ⟨_, Reads.bool b, fun _ => List.not_mem_nil⟩
  | .int i, _, _, h, r => by
    cases h
    obtain ⟨t, rfl⟩ := r
    exact ⟨_, Reads.int i t, fun _ => List.not_mem_nil⟩
  | .str x, _, _, h, r => by
    cases h
    obtain ⟨t, rfl⟩ := r
    exact ⟨_, Reads.str x t, fun _ => List.not_mem_nil⟩
  | .list ds, _, _, h, r => by
    cases h with
    | lst hs ha =>
      cases r
      obtain ⟨its, rv, ⟨o, n, ho, hc, _, hd⟩, _⟩ := I.list hs
      obtain ⟨as, hr, _⟩ := Dx.readsAll I ds _ its ha rv
      exact ⟨_, Reads.list ho hc hd hr, fun z => by simp [noL] at z⟩
  | .tuple ds, _, _, h, r => by
    cases h with
    | tup hs ha =>
      cases r
      obtain ⟨its, rv, ⟨o, ho, hc, n, hd⟩, _⟩ := I.tuple hs
      obtain ⟨as, hr, hno⟩ := Dx.readsAll I ds _ its ha rv
      exact ⟨_, Reads.tuple ho hc hd hr, fun z => hno (by simpa [noL] using z)⟩
  | .dict _, _, _, h, r => by
    cases h with
    | dct hd =>
      cases r
      obtain ⟨h1, h2⟩ := dct_reads I hd
      exact ⟨_, h1, fun _ => h2⟩
theorem Dx.readsAll (I : Inv X pins σ H s) : ∀ (ds : List PyData) (vs : List V) (us : List Value), DxAll X.K H vs ds → Vals vs us → ∃ as, ReadsAll s.heap us ds as ∧ (noLs ds = true → sysModules ∉ as)
  | [], _, _, h, r => by
    cases h
    cases r
    exact ⟨_, ReadsAll.nil, fun _ => List.not_mem_nil⟩
  | d :: ds, _, _, h, r => by
    cases h with
    | cons h1 h2 =>
      cases r with
      | cons r1 r2 =>
        obtain ⟨as, q1, n1⟩ := Dx.reads I d _ _ h1 r1
        obtain ⟨bs, q2, n2⟩ := Dx.readsAll I ds _ _ h2 r2
        refine ⟨_, ReadsAll.cons q1 q2, fun z hm => ?_⟩
        have z2 := Bool.and_eq_true_iff.mp (show (noL d && noLs ds) = true from z)
        exact (List.mem_append.mp hm).elim (n1 z2.1) (n2 z2.2)
end
def topL (d : PyData) : Bool := !d.hasDict || match d with
  | .list ds => noLs ds
  | .tuple ds => noLs ds
  | _ => true
structure ShowsX (d : PyData) : Prop where
  ok : okX d = true
  len : rbX d ≤ 16777216
  deep : d.depth ≤ 60
  top : topL d = true
def rReprX (K : PySem.W.Frag) : List V → Hp → VK → Prop := fun xs H Q => ∃ v d, xs = [v] ∧ Dx K H v d ∧ ShowsX d ∧ Q (.str d.shown) H
theorem w_reprX {K : PySem.W.Frag} {H : Hp} {Q : VK} {v : V} {d : PyData} (h : Dx K H v d) (s : ShowsX d) (q : Q (.str d.shown) H) : rReprX K [v] H Q := ⟨v, d, rfl, h, s, q⟩
theorem showsByX (I : Inv X pins σ H s) {a : Addr} {d : PyData} (h : Dx X.K H (.ref a) d) (hk : okX d = true) (ht : topL d = true) (hsz : d.shown.length ≤ sizeLine) : ∃ T idr, ShowsBy X.prog X.w s.heap a d T idr := by
  have hs := showable_ofX d hk
  cases h with
  | lst hq ha =>
    rename_i vs xs
    obtain ⟨its, rv, ⟨o, n, h1, h2, _, h3⟩, _⟩ := I.list hq
    obtain ⟨as, h4, hno⟩ := Dx.readsAll I xs _ its ha rv
    have hz' : (listText (PyData.shownAll xs)).length ≤ sizeLine := by simpa only [PyData.shown] using hsz
    have hx0 : PyData.hasDictAll xs = true → sysModules ∉ as := fun hx => hno (by
      have z : (!(PyData.list xs).hasDict || noLs xs) = true := ht
      rw [show (PyData.list xs).hasDict = true by simpa [PyData.hasDict] using hx] at z
      simpa using z)
    have h4' : ReadsAll s.heap its.toArray.toList xs as := by simpa using h4
    obtain ⟨bs, hb, hkk⟩ := ReprAllK.of_readsAll (prog := X.prog) (w := X.w) h4' (by simpa [PyData.showable] using hs) hx0 fun t ht => Nat.le_trans (listText_mem_le ht) hz'
    have hna : a ∉ bs := not_mem_of_deeper (.list h1 h2 h3 h4') (by simp only [PyData.depth]; omega) hb
    refine ⟨"list", "list.__repr__", F.slot_list_repr.toG, F.slot_list_str, F.slot_list_format, fun s hk0 => ⟨o, hk0 _ _ h1, h2⟩, fun A E s Q hg hu hk0 hQ => ?_⟩
    simp only [PyData.depth] at hu
    simp only [PyData.shown] at hQ
    cases its with
    | nil =>
      cases h4
      simp only [PyData.shownAll, listText_nil] at hQ
      exact call_list_repr_empty ⟨o, hk0 _ _ h1, h2⟩ (hk0 _ _ h1) h3 (hQ s.heap _ _ fun _ _ e => e)
    | cons x l => exact call_list_reprK h1 h2 h3 hna (by simpa using hkk.length_eq) (fun i y e => hkk.item i y (by simpa using e)) hg (fun b _ => Clear.nil b) hu hk0 hQ hz'
  | tup hq ha =>
    rename_i vs xs
    obtain ⟨its, rv, ⟨o, h1, h2, n, h3⟩, _⟩ := I.tuple hq
    obtain ⟨as, h4, hno⟩ := Dx.readsAll I xs _ its ha rv
    have h4' : ReadsAll s.heap its.toArray.toList xs as := by simpa using h4
    refine showsBy_of_reads (Reads.tuple h1 h2 h3 h4') hs (fun hx => hno ?_) hsz
    have z : (!(PyData.tuple xs).hasDict || noLs xs) = true := ht
    rw [hx] at z
    simpa using z
  | dct hd =>
    obtain ⟨h1, h2⟩ := dct_reads I hd
    exact showsBy_of_reads h1 hs (fun _ => h2) hsz
end
theorem call_reprX {X : Cx} (hg : X.A.guards = some []) (hu : X.A.units + 64 < cLine) : CallR X (.builtin "repr") (rReprX X.K) := by
  intro pins s σ H xs us Q I r h
  obtain ⟨v, d, rfl, hd, hs, q⟩ := h
  obtain ⟨u, rfl, ru⟩ := vals1 r
  have hz : d.shown.length ≤ sizeLine := Nat.le_trans (shown_leX d hs.ok) (Nat.le_trans hs.len (by rw [sizeLine_eq]; exact Nat.le_refl _))
  have big : ∀ a, v = .ref a → wpAny (model X.prog X.w) X.A (call (.builtin "repr") [u]) (EP X pins σ Q) X.xe s := fun a e => by
    subst e
    obtain rfl : u = Value.ref a := ru
    obtain ⟨T, idr, S⟩ := showsByX I hd hs.ok hs.top hz
    refine call_repr_slot (by omega) (S.typeIs s fun _ _ e => e) S.slotRepr (S.call X.A.in1 X.xe s _ hg (by have := hs.deep; show X.A.units + 1 + d.depth < cLine; omega) (fun _ _ e => e) fun h' w' tk hk => ⟨_, _, rfl, ?_⟩)
    exact ⟨.str d.shown, H, I.kept (t' := tk) hk, ⟨_, rfl⟩, q⟩
  cases hd with
  | non =>
    have e : u = .none := ru
    subst e
    exact PySem.P.repr_of_none ⟨.str _, H, I.tok _, ⟨_, rfl⟩, q⟩
  | bl b =>
    have e : u = .bool b := ru
    subst e
    refine PySem.P.repr_of_bool ⟨.str _, H, I.tok _, ⟨_, rfl⟩, ?_⟩
    cases b <;> exact q
  | int i =>
    obtain ⟨t, rfl⟩ := ru
    refine PySem.P.repr_of_int ?_ ⟨.str _, H, I.tok _, ⟨_, rfl⟩, q⟩
    simpa [okX] using hs.ok
  | str x =>
    obtain ⟨t, rfl⟩ := ru
    exact PySem.P.repr_of_str ⟨.str _, H, I.tok _, ⟨_, rfl⟩, q⟩ hz
  | lst _ _ => exact big _ rfl
  | tup _ _ => exact big _ rfl
  | dct _ => exact big _ rfl
theorem k_reprX {X : Cx} (K : PySem.W.Frag) (hg : X.A.guards = some []) (hu : X.A.units + 64 < cLine) (h : X.K = K := by rfl) : CallR X (.builtin "repr") (rReprX K) := by subst h; exact call_reprX hg hu
end TP
namespace TP
open PySem PySem.Spec PyProof.Rows L2 LamX
theorem run_pair {d : PyData} (h : runD d = true) : ∃ p : Str × Int, d = pairD p ∧ isName p.1 = true ∧ 1 ≤ p.2 := by
  unfold runD at h
  split at h
  · rename_i a b
    rw [Bool.and_eq_true] at h
    obtain ⟨h1, h2⟩ := h
    cases a with
    | str x =>
      cases b with
      | int i => exact ⟨(x, i), rfl, h1, of_decide_eq_true h2⟩
      | _ => cases h2
    | _ => cases h1
  · cases h
theorem runs_of : ∀ {ds : List PyData}, (∀ d ∈ ds, runD d = true) → ∃ ps : Bag, ds = ps.map pairD ∧ ∀ p ∈ ps, isName p.1 = true ∧ 1 ≤ p.2
  | [], _ => ⟨[], rfl, nofun⟩
  | d :: ds, h => by
    obtain ⟨p, rfl, h1, h2⟩ := run_pair (h d List.mem_cons_self)
    obtain ⟨ps, rfl, h3⟩ := runs_of fun d hd => h d (List.mem_cons_of_mem _ hd)
    refine ⟨p :: ps, rfl, fun q hq => ?_⟩
    rcases List.mem_cons.mp hq with rfl | hq
    · exact ⟨h1, h2⟩
    · exact h3 q hq
theorem dx_bag {K : PySem.W.Frag} {H : Hp} {v : V} {ps : Bag} (h : Dx K H v (bagD ps)) : Dp K H v (bagD ps) := by
  obtain ⟨a, xs, rfl, hs, hx⟩ := dx_tup_inv h
  refine .tup hs ?_
  clear hs h
  induction ps generalizing xs with
  | nil => cases hx; exact .nil
  | cons p ps ih =>
    cases hx with
    | cons r hx =>
      obtain ⟨b, ys, rfl, hb, hy⟩ := dx_tup_inv r
      refine .cons (.tup hb ?_) (ih _ hx)
      cases hy with
      | cons r0 hy =>
      cases hy with
      | cons r1 hy =>
      cases hy
      cases dx_str_inv r0
      cases dx_int_inv r1
      exact .cons (.str _) (.cons (.int _) .nil)
def smallE (d : PyData) : Bool := szD d && match d with
  | .tuple [.str _, .int i] => decide (i ≤ 10 ^ 100)
  | _ => true
theorem smallE_sz {d : PyData} (h : smallE d = true) : szD d = true := (Bool.and_eq_true_iff.mp h).1
theorem smallE_pair {q : Str × Int} (h : smallE (pairD q) = true) : q.2 ≤ 10 ^ 100 := of_decide_eq_true (Bool.and_eq_true_iff.mp h).2
structure OddD (d : PyData) : Prop where
  sz : szD d = true
  len : ∀ ds, d = .tuple ds → ds.length ≤ 5000
  big : ∀ ps : Bag, d = bagD ps → ∀ p ∈ ps, p.2 ≤ 10 ^ 100
theorem szDs_all : ∀ {ds : List PyData}, (∀ d ∈ ds, szD d = true) → szDs ds = true
  | [], _ => rfl
  | d :: ds, h => by
    show (szD d && szDs ds) = true
    rw [h d List.mem_cons_self, szDs_all fun e he => h e (List.mem_cons_of_mem _ he)]; rfl
theorem odd_tup {ds : List PyData} (h : ∀ d ∈ ds, smallE d = true) (hl : ds.length ≤ 5000) : OddD (.tuple ds) := by
  refine ⟨szDs_all fun d hd => smallE_sz (h d hd), fun es e => ?_, fun ps e p hp => ?_⟩
  · cases e; exact hl
  · have e2 : ds = ps.map pairD := by injection e
    subst e2
    exact smallE_pair (h _ (List.mem_map.mpr ⟨p, hp, rfl⟩))
theorem odd_lst {ds : List PyData} (h : ∀ d ∈ ds, smallE d = true) : OddD (.list ds) := ⟨szDs_all fun d hd => smallE_sz (h d hd), (fun _ e => by cases e), (fun _ e => by cases e)⟩
theorem small_bag {ps : Bag} (hn : ∀ p ∈ ps, p.1.length ≤ 100000) (hc : ∀ p ∈ ps, p.2 ≤ 10 ^ 100) : ∀ d ∈ ps.map pairD, smallE d = true := fun d hd => by
  obtain ⟨p, hp, rfl⟩ := List.mem_map.mp hd
  show (szD (pairD p) && decide (p.2 ≤ 10 ^ 100)) = true
  rw [decide_eq_true (hc p hp), show szD (pairD p) = true by
    show (decide (p.1.length ≤ 100000) && (true && true)) = true
    rw [decide_eq_true (hn p hp)]; rfl]
  rfl
end TP
namespace TP
open PySem PySem.Spec PyProof.Rows L2 LamX
def GivesD (K : PySem.W.Frag) (σ : L2.St) (H : Hp) (te : TE) (d : PyData) : Prop := ∀ H0, Same H H0 → ∀ Q : VK, (∀ v H', Same H0 H' → Dx K H' v d → Q v H') → te σ H0 Q
def GivesA (K : PySem.W.Frag) (σ : L2.St) (H : Hp) (tr : TA) (ds : List PyData) : Prop := ∀ H0, Same H H0 → ∀ Q : List V → Hp → Prop, (∀ vs H', Same H0 H' → DxAll K H' vs ds → Q vs H') → tr σ H0 Q
def GivesL (K : PySem.W.Frag) (σ : L2.St) (H : Hp) (te : TE) (ds : List PyData) : Prop := ∀ H0, Same H H0 → ∀ Q : VK, (∀ l xs H', Same H0 H' → H' l = some (.lst xs) → DxAll K H' xs ds → Q (.ref l) H') → te σ H0 Q
section
variable {K : PySem.W.Frag} {σ : L2.St} {H : Hp} {te : TE} {tr : TA} {d : PyData} {ds es : List PyData}
theorem gd_int {i : Int} : GivesD K σ H (tC (.int i)) (.int i) := fun H0 _ Q h => h _ _ (Same.refl _) (.int i)
theorem gd_neg {i : Int} : GivesD K σ H (tUn (rU fun i => .int (-i)) (tC (.int i))) (.int (-i)) := fun H0 _ Q h => ⟨i, rfl, h _ _ (Same.refl _) (.int _)⟩
theorem gd_str {x : Str} : GivesD K σ H (tC (.str x)) (.str x) := fun H0 _ Q h => h _ _ (Same.refl _) (.str x)
theorem gd_bl {b : Bool} : GivesD K σ H (tC (.bl b)) (.bool b) := fun H0 _ Q h => h _ _ (Same.refl _) (.bl b)
theorem gd_non : GivesD K σ H (tC .non) .none := fun H0 _ Q h => h _ _ (Same.refl _) .non
theorem gd_var {i : Nat} {v : V} (e : σ[i]? = some (some v)) (hd : Dx K H v d) : GivesD K σ H (tVar i) d := fun H0 s Q h => ⟨v, e, h v H0 (Same.refl _) (dx_same s hd)⟩
theorem gd_dct : GivesD K σ H tDNewK (.dict []) := fun H0 _ Q h p hp => h _ _ (same_new hp) (.dct upd_same)
theorem gd_pow {i j : Int} (h : CPow i j) : GivesD K σ H (tOp (rI CPow fun i j => .int (i ^ j.toNat)) (tC (.int i)) (tC (.int j))) (.int (i ^ j.toNat)) := fun H0 _ Q k => ⟨i, j, rfl, rfl, h, k _ _ (Same.refl _) (.int _)⟩
theorem ga_nil : GivesA K σ H tNil [] := fun H0 _ Q h => h _ _ (Same.refl _) .nil
theorem ga_cons (h1 : GivesD K σ H te d) (h2 : GivesA K σ H tr ds) : GivesA K σ H (tCons te tr) (d :: ds) := fun H0 s Q h =>
  h1 H0 s _ fun v H1 s1 hv => h2 H1 (s.trans s1) _ fun vs H2 s2 hvs => h _ _ (s1.trans s2) (.cons (dx_same s2 hv) hvs)
theorem gd_tup (h : GivesA K σ H tr ds) (hl : ds.length.ble 100000 = true) : GivesD K σ H (tTup tr) (.tuple ds) := fun H0 s Q k =>
  h H0 s _ fun vs H1 s1 hvs => ⟨by rw [dxs_len hvs]; exact sz_le (Nat.le_of_ble_eq_true hl), fun p hp => k _ _ (s1.trans (same_new hp)) (.tup (SqT.of upd_same) (dxs_same (same_new hp) hvs))⟩
theorem gl_lst (h : GivesA K σ H tr ds) (hl : ds.length.ble 100000 = true) : GivesL K σ H (tLst tr) ds := fun H0 s Q k =>
  h H0 s _ fun vs H1 s1 hvs => ⟨by rw [dxs_len hvs]; exact sz_le (Nat.le_of_ble_eq_true hl), fun p hp => k _ _ _ (s1.trans (same_new hp)) upd_same (dxs_same (same_new hp) hvs)⟩
theorem gl_d (h : GivesL K σ H te ds) : GivesD K σ H te (.list ds) := fun H0 s Q k => h H0 s Q fun l xs H' s' hl hx => k _ _ s' (.lst (SqL.of hl) hx)
theorem gl_var {i : Nat} {l : Addr} {xs : List V} (e : σ[i]? = some (some (.ref l))) (hl : H l = some (.lst xs)) (hd : DxAll K H xs ds) : GivesL K σ H (tVar i) ds := fun H0 s Q h => ⟨.ref l, e, h l xs H0 (Same.refl _) (s _ _ hl) (dxs_same s hd)⟩
theorem gl_cat {ta tb : TE} (h1 : GivesL K σ H ta ds) (h2 : GivesL K σ H tb es) (hl : (ds.length + es.length).ble 100000 = true) : GivesL K σ H (tOp rCat ta tb) (ds ++ es) := fun H0 s Q k =>
  h1 H0 s _ fun l xs H1 s1 hl1 hx1 => h2 H1 (s.trans s1) _ fun b ys H2 s2 hb hy => ⟨l, b, xs, ys, rfl, rfl, s2 _ _ hl1, hb, by
    rw [dxs_len hx1, dxs_len hy]; exact sz_le (Nat.le_of_ble_eq_true hl), fun p hp => k p _ _ ((s1.trans s2).trans (same_new hp)) upd_same (dxs_same (same_new hp) (dxs_app (dxs_same s2 hx1) hy))⟩
theorem gl_asg {g : TG} {u : TS} {De : Ends} (h : GivesL K σ H te ds) (k : ∀ l xs H', Same H H' → H' l = some (.lst xs) → DxAll K H' xs ds → g (.ref l) σ H' (u De)) : tSeq (tAsg te g) u De σ H := h H (Same.refl _) _ k
theorem gl_op {r : R2} {ta tb : TE} {De : Ends} (h : GivesL K σ H ta ds) (k : ∀ l xs H', Same H H' → H' l = some (.lst xs) → DxAll K H' xs ds → tb σ H' fun y H2 => r (.ref l) y H2 De.rt) : tRet (tOp r ta tb) De σ H := h H (Same.refl _) _ k
end
theorem cut_mem {α : Type} {ds : List α} {lo hi : Option Int} : ∀ d ∈ cutL ds lo hi, d ∈ ds := fun d hd => by
  unfold cutL at hd
  exact List.mem_of_mem_drop (List.mem_of_mem_take hd)
theorem cutL_len {α : Type} (ds : List α) (lo hi : Option Int) : (cutL ds lo hi).length ≤ ds.length := by
  unfold cutL
  rw [List.length_take, List.length_drop]
  omega
theorem w_slX {K : PySem.W.Frag} {H : Hp} {Q : VK} {v : V} {ds : List PyData} {lo hi : Option Int} (h : Dx K H v (.tuple ds)) (k : ∀ v' H', Same H H' → Dx K H' v' (.tuple (cutL ds lo hi)) → Q v' H') : rSlA K v lo hi H Q := by
  obtain ⟨a, xs, rfl, hs, hx⟩ := dx_tup_inv h
  have hl := dxs_len hx
  refine ⟨a, xs, rfl, hs, fun e => ?_, fun _ p hp => ?_⟩
  · refine k _ _ (Same.refl _) ?_
    have : cutL ds lo hi = ds := by
      unfold cutL
      rw [← hl, e.1, e.2, hl]
      simp
    rw [this]; exact h
  · refine k _ _ (same_new hp) (.tup (SqT.of upd_same) (dxs_same (same_new hp) ?_))
    unfold cutL cutV
    rw [hl]
    exact dxs_take _ (dxs_drop _ hx)
theorem w_catX {K : PySem.W.Frag} {H : Hp} {Q : VK} {v w : V} {ds es : List PyData} (h1 : Dx K H v (.tuple ds)) (h2 : Dx K H w (.tuple es)) (hz : ds.length + es.length ≤ 100000) (h : ∀ c H', Same H H' → Dx K H' c (.tuple (ds ++ es)) → Q c H') : rCatA K v w H Q := by
  obtain ⟨a, xs, rfl, hs, hx⟩ := dx_tup_inv h1
  obtain ⟨b, ys, rfl, ht, hy⟩ := dx_tup_inv h2
  exact w_catT hs ht (by rw [dxs_len hx, dxs_len hy]; exact hz) fun c H' s hc => h _ _ s (.tup hc (dxs_app (dxs_same s hx) (dxs_same s hy)))
section
variable {K : PySem.W.Frag} {σ : L2.St} {H : Hp} {ta tb : TE} {ds es : List PyData}
theorem gd_catT (h1 : GivesD K σ H ta (.tuple ds)) (h2 : GivesD K σ H tb (.tuple es)) (hz : ds.length + es.length ≤ 100000) : GivesD K σ H (tOp (rCatA K) ta tb) (.tuple (ds ++ es)) := fun H0 s Q k =>
  h1 H0 s _ fun v H1 s1 d1 => h2 H1 (s.trans s1) _ fun w H2 s2 d2 => w_catX (dx_same s2 d1) d2 hz fun c H3 s3 d3 => k _ _ ((s1.trans s2).trans s3) d3
theorem gd_slH {i : Int} (h1 : GivesD K σ H ta (.tuple ds)) : GivesD K σ H (L2.tSl (rSlA K) ta tNoPart (tPart (tC (.int i)))) (.tuple (cutL ds none (some i))) := fun H0 s Q k =>
  h1 H0 s _ fun v H1 s1 d1 => ⟨i, rfl, w_slX d1 fun v' H2 s2 d2 => k _ _ (s1.trans s2) d2⟩
end
def SmT (n : Nat) (ds : List PyData) : Prop := (∀ d ∈ ds, smallE d = true) ∧ ds.length ≤ n
theorem SmT.odd {n : Nat} {ds : List PyData} (h : SmT n ds) (hn : n ≤ 5000) : OddD (.tuple ds) := odd_tup h.1 (Nat.le_trans h.2 hn)
theorem SmT.app {n m : Nat} {ds es : List PyData} (h : SmT n ds) (h' : SmT m es) : SmT (n + m) (ds ++ es) := ⟨fun d hd => (List.mem_append.mp hd).elim (h.1 d) (h'.1 d), by rw [List.length_append]; exact Nat.add_le_add h.2 h'.2⟩
theorem SmT.cut {n : Nat} {ds : List PyData} {lo hi : Option Int} (h : SmT n ds) : SmT n (cutL ds lo hi) := ⟨fun d hd => h.1 d (cut_mem d hd), Nat.le_trans (cutL_len _ _ _) h.2⟩
end TP
namespace TP
open PySem PySem.Spec PyProof.Rows L2 LamX
theorem dxs_get' {K : PySem.W.Frag} {H : Hp} : ∀ {vs : List V} {ds : List PyData} {i : Nat} {d : PyData}, DxAll K H vs ds → ds[i]? = some d → ∃ v, vs[i]? = some v ∧ Dx K H v d
  | _, _, i, _, .nil, e => by simp at e
  | _, _, 0, _, .cons h _, e => by simp at e; subst e; exact ⟨_, rfl, h⟩
  | _, _, i + 1, d, .cons _ r, e => by
    obtain ⟨v, h1, h2⟩ := dxs_get' (i := i) r (by simpa using e)
    exact ⟨v, by simpa using h1, h2⟩
abbrev Ver := List PyData → Option Nat
def verV (F : Ver) : PyData → V
  | .tuple ds => optV (F ds)
  | _ => .non
def verDue (F : Ver) : PyData → V
  | .tuple ds => match F ds with
    | none => .int (-1)
    | some i => .int (i : Nat)
  | _ => .non
def verD (F : Ver) : PyData → PyData
  | .tuple ds => match F ds with
    | none => .none
    | some i => .int (i : Nat)
  | _ => .none
def verOk (F : Ver) : PyData → Bool
  | .tuple ds => (F ds).isNone
  | _ => false
theorem ver_due {F : Ver} {d : PyData} (h : verOk F d = true) : verDue F d = .int (-1) := by
  cases d with
  | tuple ds =>
    have h : (F ds).isNone = true := h
    simp only [verDue]
    rw [Option.isNone_iff_eq_none.mp h]
  | _ => cases h
theorem ver_no {K : PySem.W.Frag} {H : Hp} {F : Ver} {d : PyData} (h : verOk F d = false) : verDue F d = verV F d ∧ verDue F d ≠ .int (-1) ∧ Dp K H (verV F d) (verD F d) := by
  cases d with
  | tuple ds =>
    have h : (F ds).isNone = false := h
    cases e : F ds with
    | none => rw [e] at h; cases h
    | some i =>
      have e1 : verDue F (.tuple ds) = .int (i : Nat) := by simp only [verDue]; rw [e]
      have e2 : verV F (.tuple ds) = .int (i : Nat) := by simp only [verV]; rw [e]; rfl
      have e3 : verD F (.tuple ds) = .int (i : Nat) := by simp only [verD]; rw [e]
      rw [e1, e2, e3]
      refine ⟨rfl, fun z => ?_, .int _⟩
      have z2 := V.int.inj z
      omega
  | _ => exact ⟨rfl, (fun z => by cases z), .non⟩
theorem ver_small {F : Ver} {d : PyData} {n : Nat} (hF : ∀ ds i, F ds = some i → i < ds.length) (h : ∀ ds, d = .tuple ds → ds.length ≤ n) : verD F d = .none ∨ ∃ i : Nat, verD F d = .int (i : Nat) ∧ i < n := by
  cases d with
  | tuple ds =>
    cases e : F ds with
    | none => exact .inl (by simp only [verD]; rw [e])
    | some i => exact .inr ⟨i, by simp only [verD]; rw [e], by have := hF ds i e; have := h ds rfl; omega⟩
  | _ => exact .inl rfl
theorem ver_scal {F : Ver} {d : PyData} : scal (verV F d) (.int (-1)) = true := by
  cases d with
  | tuple ds =>
    show scal (optV (F ds)) _ = true
    cases F ds <;> rfl
  | _ => rfl
abbrev badF (m : Int) : Ver := fun ds => firstBad ds m
theorem bad_lt {m : Int} : ∀ ds i, badF m ds = some i → i < ds.length := fun ds i e => List.mem_range.mp (List.mem_of_find?_eq_some (show (List.range ds.length).find? (badAt ds m) = some i from e))
theorem bad_inv {ds : List PyData} {m : Int} (h : firstBad ds m = none) : ∃ ps : Bag, ds = ps.map pairD ∧ BagOk ps ∧ ((ps.length : Int) ≤ m ∨ ps = []) := by
  unfold firstBad at h
  rw [List.find?_eq_none] at h
  have hi : ∀ i (hl : i < ds.length), ((i : Nat) : Int) < m ∧ runD ds[i] = true ∧ (0 < i → ltS (nmD (ds.getD (i - 1) .none)) (nmD ds[i])) := fun i hl => by
    have h0 := h i (List.mem_range.mpr hl)
    have h0 : badAt ds m i = false := by simpa using h0
    unfold badAt at h0
    have e : ds.getD i .none = ds[i] := by simp [List.getD, hl]
    rw [e, Bool.or_eq_false_iff, Bool.or_eq_false_iff] at h0
    obtain ⟨a, b, c⟩ := h0
    refine ⟨by have := of_decide_eq_false a; omega, by simpa using b, fun hp => ?_⟩
    rw [decide_eq_true hp, Bool.true_and] at c
    by_cases z : ltS (nmD (ds.getD (i - 1) .none)) (nmD ds[i])
    · exact z
    · rw [decide_eq_false z] at c; cases c
  obtain ⟨ps, rfl, hps⟩ := runs_of fun d hd => by
    obtain ⟨i, hl, rfl⟩ := List.mem_iff_getElem.mp hd
    exact (hi i hl).2.1
  refine ⟨ps, rfl, ⟨?_, fun p hp => (hps p hp).1, fun p hp => (hps p hp).2⟩, ?_⟩
  · have step : ∀ i (h1 : i + 1 < ps.length), ltS ps[i].1 ps[i + 1].1 := fun i h1 => by
      have h2 := (hi (i + 1) (by rw [List.length_map]; exact h1)).2.2 (by omega)
      have e1 : (ps.map pairD).getD (i + 1 - 1) .none = pairD ps[i] := by
        rw [Nat.add_sub_cancel]
        simp [List.getD, (show i < ps.length by omega)]
      rw [e1, List.getElem_map] at h2
      exact h2
    have all : ∀ (n i : Nat) (h1 : i + n + 1 < ps.length), ltS ps[i].1 ps[i + n + 1].1 := fun n => by
      induction n with
      | zero => exact fun i h1 => step i h1
      | succ n ih => exact fun i h1 => ltS_trans (ih i (by omega)) (step (i + n + 1) (by omega))
    rw [List.pairwise_iff_getElem]
    intro i j hi' hj hij
    have := all (j - i - 1) i (by omega)
    have e : i + (j - i - 1) + 1 = j := by omega
    simp only [e] at this
    exact this
  · by_cases z : ps.length = 0
    · exact .inr (List.length_eq_zero_iff.mp z)
    · have := (hi (ps.length - 1) (by rw [List.length_map]; omega)).1
      exact .inl (by omega)
end TP
namespace TPE
open PySem PySem.HandSPX Builtin
section
variable {M : Model} {A : Around} {E : Value → Shared → Prop} {h : Heap} {g : Array GenState} {d : Drawn} {t : Nat} {os : OsState}
variable {nm q : Str} {C N : Addr} {bs bm bmB : List Value} {hdct : Bool} {sn : List Str} {sub : List Value} {ab : Bool} {col : Option Bool} {dd : Option Addr} {k0 k1 k2 k3 k5 : Option Value} {B newId initId : String}
theorem check_newK (F : ExcBaseFacts B newId initId bmB) (hT : ∀ X : String, bm.contains (.type X) = bmB.contains (.type X)) {kws : List (Str × Value)} {Q : Unit → Shared → Prop}
    (hC : h.get? C = some (excClassObj nm q C N bs bm hdct sn sub ab col dd k0 k1 k2 k3 k5 newId)) (hq : Q () ⟨h, g, d, t, os⟩) : wpAny M A (checkBuiltinCall newId ⟨[.ref C], kws⟩) Q E ⟨h, g, d, t, os⟩ := by
  have hcont : (Value.ref C :: bm).contains (.type B) = true := by rw [List.contains_cons, hT, F.hasB, Bool.or_true]
  have hstar := F.noStar
  simp only [checkBuiltinCall, F.newKind, F.newSplit, F.newRow]
  repeat (first | refine wpAny_loadPart_at hC ?_ | (refine wpAny_isSubtype_exc hC ?_; rw [hcont]) | refine wpAny_staticBase_exc hC ?_ | refine wpAny_madeBy_exc hC ?_ | simp only [bne_self_eq_false, Bool.false_eq_true, if_false] | wp_step)
  exact hq
end
section
variable {prog : Program} {w : World} {A : Around} {E : Value → Shared → Prop} {R : Result → Shared → Prop} {h : Heap} {g : Array GenState} {d : Drawn} {t : Nat} {os : OsState}
variable {nm q : Str} {C N : Addr} {bs bm bmB : List Value} {hdct : Bool} {sn : List Str} {sub : List Value} {ab : Bool} {col : Option Bool} {dd : Option Addr} {k0 k1 k2 k3 k5 : Option Value} {B newId initId : String}
theorem new_ownK (F : ExcBaseFacts B newId initId bmB) (hT : ∀ X : String, bm.contains (.type X) = bmB.contains (.type X)) {kws : List (Str × Value)}
    (hC : h.get? C = some (excClassObj nm q C N bs bm hdct sn sub ab col dd k0 k1 k2 k3 k5 newId))
    (hq : R (.ok (.ret (.ref (h.objs.size + 1)))) ⟨(h.push { cls := .type "tuple", data := .seq ([] : List Value).toArray }).push
      { cls := .ref C, data := .fields #[.ref h.objs.size, .none, .none, .none, .bool false, .none] }, g, d, t, os⟩) :
    codeAny (model prog w) A (.builtin newId ⟨[.ref C], kws⟩) R ⟨h, g, d, t, os⟩ := by
  have hrest : ([] : List Value).length ≤ sizeLine := Nat.zero_le _
  have hends := F.ends
  have hcB : (Value.ref C :: bm).contains (.type B) = true := by rw [List.contains_cons, hT, F.hasB, Bool.or_true]
  have hcA : (Value.ref C :: bm).contains (.type "AttributeError") = false := by rw [List.contains_cons, hT, F.noAttr]; rfl
  have hcN : (Value.ref C :: bm).contains (.type "NameError") = false := by rw [List.contains_cons, hT, F.noName]; rfl
  refine codeAny_builtinAt F.entry ?_
  unfold Builtin.«BaseException.__new__»
  refine wpAt_bind ?_
  show wpAt _ _ _ (stack >>= _) _ _ _
  refine wpAt_bind (wpAt_stack fun p below => wpAt_of_wpAny ?_)
  wp_walk
  refine wpAt_of_wpAny ?_
  rw [F.owner]
  repeat (first | with_reducible refine wpAny_madeHere_exc F.canon hC ?_ | with_reducible refine wpAny_loadPart_at hC ?_ | (with_reducible refine wpAny_isSubtype_exc hC ?_; first | rw [hcB] | rw [hcA] | rw [hcN]) | wp_step)
  show R _ _
  rw [Heap.size_push]
  exact hq
theorem type_callK (F : ExcBaseFacts B newId initId bmB) (hT : ∀ X : String, bm.contains (.type X) = bmB.contains (.type X)) {kws : List (Str × Value)} {fI : Addr} {Q : Fin → Shared → Prop}
    (hC : h.get? C = some (excClassObj nm q C N bs bm hdct sn sub ab col dd k0 k1 k2 k3 k5 newId))
    (hi : W.Looks (model prog w) h (typeLookup (.ref C) "__init__") (some (.ref fI))) (hb : ∀ self, W.Looks (model prog w) h (bindSpecial (.ref fI) self) (.ref fI, [self]))
    (hq : codeAny (model prog w) A (.call (.ref fI) ⟨[.ref (h.objs.size + 1)], kws⟩)
      (fun r s' => match r with | .ok (.ret v) => v = .none ∧ Q (.done (.ret (.ref (h.objs.size + 1)))) s' | .ok _ => False | .error e => E e s')
      ⟨(h.push (W.kdv_tup [])).push (excO C h.objs.size), g, d, t, os⟩) :
    wpAny (model prog w) A (Builtin.«type.__call__» ⟨[.ref C], kws⟩) Q E ⟨h, g, d, t, os⟩ := by
  repeat (first | with_reducible refine wpAny_loadPart_at hC ?_ | with_reducible refine wpAny_madeBy_exc hC ?_ | wp_step)
  refine codeAny_call_builtin_code (Code.quiet_builtin _ F.quiet) (check_newK F hT hC ?_)
  refine new_ownK F hT hC ?_
  show wpAny _ _ _ _ _ _
  have k : ∀ b o, h.get? b = some o → ((h.push (W.kdv_tup [])).push (excO C h.objs.size)).get? b = some o := fun b o e => Heap.get?_push_of_some _ (Heap.get?_push_of_some _ e)
  have hC₁ := k _ _ hC
  have hget : ((h.push (W.kdv_tup [])).push (excO C h.objs.size)).get? (h.objs.size + 1) = some (excO C h.objs.size) := by heap_get
  have hcC : (Value.ref C :: bm).contains (.ref C) = true := by simp
  have i1 := hi.keeps k
  have b1 := (hb (.ref (h.objs.size + 1))).keeps k
  unfold isInstance
  repeat (first | with_reducible refine wpAny_loadPart_at hget ?_ | (with_reducible refine wpAny_isSubtype_exc hC₁ ?_; rw [hcC]) | wp_step)
  show wpAny _ _ (typeLookup (.ref C) _) _ _ _
  refine i1.at ?_
  refine wpAny_holding (wpAny_bind (b1.at ?_))
  refine wpAny_bind (wpAny_call (codeAny_mono hq fun r s' z => ?_))
  rcases r with e | (v | _ | _ | _) <;> first | exact z | exact z.elim | skip
  obtain ⟨rfl, z⟩ := z
  first
    | exact wpAny_pure (wpAny_pure z)
    | (wp_walk; exact z)
theorem check_typeK {M : Model} {kws : List (Str × Value)} {Q : Unit → Shared → Prop} (hC : h.get? C = some (excClassObj nm q C N bs bm hdct sn sub ab col dd k0 k1 k2 k3 k5 newId))
    (hq : Q () ⟨h, g, d, t, os⟩) : wpAny M A (checkBuiltinCall "type.__call__" ⟨[.ref C], kws⟩) Q E ⟨h, g, d, t, os⟩ := by
  have f3 := tc_sub
  have hT : (⟨h, g, d, t, os⟩ : Shared).TypeIs (.ref C) "type" := ⟨_, hC, rfl⟩
  simp only [checkBuiltinCall, tc_kind, tc_split]
  repeat (any_goals (first | assumption | with_reducible refine wpAny_loadPart_at hC ?_ | with_reducible refine wpAny_onRaise ?_ | with_reducible refine wpAny_map ?_ | wp_step))
theorem call_ownK (F : ExcBaseFacts B newId initId bmB) (hT : ∀ X : String, bm.contains (.type X) = bmB.contains (.type X)) {kws : List (Str × Value)} {fI : Addr}
    (hC : h.get? C = some (excClassObj nm q C N bs bm hdct sn sub ab col dd k0 k1 k2 k3 k5 newId))
    (hi : W.Looks (model prog w) h (typeLookup (.ref C) "__init__") (some (.ref fI))) (hb : ∀ self, W.Looks (model prog w) h (bindSpecial (.ref fI) self) (.ref fI, [self]))
    (hq : codeAny (model prog w) (A.under (.builtin "type.__call__" ⟨[.ref C], kws⟩)) (.call (.ref fI) ⟨[.ref (h.objs.size + 1)], kws⟩) (W.InitBack (h.objs.size + 1) R)
      ⟨(h.push (W.kdv_tup [])).push (excO C h.objs.size), g, d, t, os⟩) :
    codeAny (model prog w) A (.call (.ref C) ⟨[], kws⟩) R ⟨h, g, d, t, os⟩ := by
  have f1 := tc_lookup
  have f2 := tc_bind (.ref C)
  have hTy : (⟨h, g, d, t, os⟩ : Shared).TypeIs (.ref C) "type" := ⟨_, hC, rfl⟩
  refine codeAny_of_tree ?_
  show wpAny _ _ (callAny (.ref C) _) _ _ _
  repeat (any_goals (first | assumption | with_reducible refine wpAny_loadPart_at hC ?_ | wp_step))
  refine ⟨rfl, ?_⟩
  refine codeAny_call_builtin_at (Code.quiet_builtin _ (by decide +kernel)) entry_typeCall (check_typeK hC (type_callK F hT hC hi hb ?_))
  refine codeAny_mono hq fun r s' z => ?_
  rcases r with e | (v | _ | _ | _) <;> exact z
end
end TPE
namespace TP
open PySem PySem.Spec PyProof.Rows L2 LamX
theorem exd_frz {dx : Addr} {fs : List (Str × V)} {o : Obj} {u : HO} : exd dx fs ≠ .frz o u := fun z => by
  have z' : HO.ext _ = HO.frz o u := z
  cases z'
theorem exd_tbl {dx : Addr} {fs : List (Str × V)} {ps : Array Value} : exd dx fs ≠ .tbl ps := fun z => by
  have z' : HO.ext _ = HO.tbl ps := z
  cases z'
structure Exc0 (K : PySem.W.Frag) (mg : Str → Option Value) (C : Str) : Prop where
  glo : mg C = some (.ref (He.ga K C))
  own : PySem.W.excIn K (He.ga K C) (TPE.XB.tl .le) (TPE.XB.nw .le) = true
  keep : PySem.W.keepIn K (.ref (He.ga K C)) = true
  exC : PySem.W.subIn K (.ref (He.ga K C)) (.type "BaseException") = some true
  tyC : PySem.W.typeIn K (.ref (He.ga K C)) = some (.type "type")
theorem ex0B_ok {K : PySem.W.Frag} {h : Heap} {mg : Str → Option Value} {C : Str} (X : K.In h) (G : h.Ns mainGlobals mg) (c : ex0B K C = true) : Exc0 K mg C := by
  unfold ex0B at c
  simp only [Bool.and_eq_true, decide_eq_true_eq] at c
  obtain ⟨c1, c2, c3, c4, c5⟩ := c
  exact ⟨He.glo_ok X G c1, c2, c3, c4, c5⟩
structure HasXK (P : Program) (w : World) (K : PySem.W.Frag) (mg : Str → Option Value) (base : Heap) (C f : Str) : Prop where
  k : ExcK K mg C f
  ex : ∃ (fd : FuncData) (ps : List Str), FnOk P w K mg base CX0 2 (He.ma K (He.ga K C) "__init__") fd ps (sp_ini K C f) ∧ L2.Binds K fd ps [] ∧ ∀ v u : Value, bindArgs fd ⟨[v], [(f, u)]⟩ = pure (ps.zip [v, u])
theorem hasXK_of {P : Program} {w : World} {K : PySem.W.Frag} {mg : Str → Option Value} {base : Heap} {C f s y q : Str} {st : Stmt} {p1 p2 p3 p4 : Pos} (e : ExcK K mg C f) (F : ∃ fd, FunD K "__init__" q (defArgs st) (defBody st) (defScope st) [] [] (He.ma K (He.ga K C) "__init__") fd)
    (S : FnScope [s, y] [s, y] (defScope st)) (hb : defBody st = [.Assign [.Attribute (.Name s p1) f p2] (.Name y p3) p4]) (vs : Vis (defScope st) s) (vy : Vis (defScope st) y)
    (bn : ∀ (kV doc pm : Value) (an : Option Addr) (cdv ct : Value) (us : List Value), us.length = 2 → bindArgs (PySem.W.fnOf "__init__" q (defArgs st) (defBody st) (defScope st) .none kV doc pm an cdv ct) ⟨us, []⟩ = pure ([s, y].zip us))
    (bk : ∀ (kV doc pm : Value) (an : Option Addr) (cdv ct v u : Value), bindArgs (PySem.W.fnOf "__init__" q (defArgs st) (defBody st) (defScope st) .none kV doc pm an cdv ct) ⟨[v], [(f, u)]⟩ = pure ([s, y].zip [v, u]))
    (d1 : (s == ("__debug__" : Str)) = false := by decide) (d2 : (s == ("__classdict__" : Str)) = false := by decide) (d3 : (y == ("__debug__" : Str)) = false := by decide) (d4 : (y == ("__classdict__" : Str)) = false := by decide) : HasXK P w K mg base C f := by
  obtain ⟨fd, F⟩ := F
  obtain ⟨kV, doc, pm, an, cdv, ct, efd⟩ := FunD.noDef F
  refine ⟨e, fd, [s, y], ok_ini e F S hb vs vy d1 d2 d3 d4, Binds.all fun us hl => ?_, fun v u => ?_⟩
  · rw [efd]
    exact bn kV doc pm an cdv ct us hl
  · rw [efd]
    exact bk kV doc pm an cdv ct v u
section
variable {X : Cx} {pins : List (Addr × Obj)} {σ : L2.St} {H H1 : Hp} {s s' : Shared} {a C dx : Addr} {f : Str} {y : V} {u : Value} {fs : List (Str × V)} {Q : VK}
theorem inv_xd (J : Inv X pins σ H s) (e : H dx = some (exd dx fs)) : Inv X pins σ (upd H dx (.xd fs)) s := by
  obtain ⟨mA, hns, rel⟩ := exd_at J.hok e
  have U : Un X.fs [] H (upd H dx (.xd fs)) s.heap s.heap := {
    keep := fun b o q _ _ _ => q
    slot := fun b o q _ _ _ => ⟨o.slots, q⟩
    free := fun b o q n _ => by
      rw [upd_ne (fun z => by rw [z, e] at n; cases n)]
      exact n
    there := fun b o q _ => ⟨o, q⟩
    tups := fun b xs q => by rw [upd_ne (at_ne e q exd_tup)]; exact q
    frzs := fun b o v q => by rw [upd_ne (at_ne e q exd_frz)]; exact q
    tbls := fun b ps q => ⟨#[], by rw [upd_ne (at_ne e q exd_tbl), q]; simp⟩ }
  obtain ⟨hp, g, d, t, os⟩ := s
  refine J.un (t' := t) U fun b o z => ?_
  by_cases hb : b = dx
  · subst hb
    rw [upd_same] at z
    cases z
    exact ⟨mA, hns, rel⟩
  · rw [upd_ne hb] at z
    exact (J.hok b o z).stay (fun c v hc y => y) (fun c hc => by rw [upd_ne (at_ne e hc exd_own)]; exact hc) (fun c xs hc => by rw [upd_ne (at_ne e hc exd_tup)]; exact hc)
theorem xv_end (I2 : Inv X pins σ (upd H1 a (exo a C none)) s)
    (h : CE X.stack X.prog X.w (upd H1 a (exo a C none)) s (fun v H2 => v = .non ∧ ∃ dx, H1 dx = none ∧ dx ≠ a ∧ H2 = upd (upd (upd H1 a (exo a C none)) dx (exd dx [(f, y)])) a (exo a C (some dx))) u s')
    (q : ∀ d, H1 d = none → d ≠ a → Q (.ref a) (upd (upd H1 d (.xd [(f, y)])) a (exo a C (some d)))) : u = .none ∧ EP X pins σ Q (.ref a) s' := by
  obtain ⟨v, H2, J, rv, rfl, d, n1, n2, rfl⟩ := I2.after h
  refine ⟨rv, .ref a, _, inv_xd (dx := d) (fs := [(f, y)]) J (by rw [upd_ne n2, upd_same]), rfl, ?_⟩
  have e : upd (upd (upd (upd H1 a (exo a C none)) d (exd d [(f, y)])) a (exo a C (some d))) d (.xd [(f, y)]) = upd (upd H1 d (.xd [(f, y)])) a (exo a C (some d)) := by
    funext b
    by_cases e1 : b = d
    · subst e1; rw [upd_same, upd_ne n2, upd_same]
    · rw [upd_ne e1]
      by_cases e2 : b = a
      · subst e2; rw [upd_same, upd_same]
      · rw [upd_ne e2, upd_ne e1, upd_ne e2, upd_ne e2, upd_ne e1]
  rw [e]
  exact q d n1 n2
end
def tXv (K : PySem.W.Frag) (C f : Str) (te : TE) : TE := fun σ H Q => te σ H fun y H1 => ∀ a d, H1 a = none → H1 d = none → d ≠ a → Q (.ref a) (upd (upd H1 d (.xd [(f, y)])) a (exo a (He.ga K C) (some d)))
section
variable {X : Cx} {C f x : Str} {p pos q : Pos} {e : Expr} {es : List Expr} {te : TE}
theorem pe_xv (K : PySem.W.Frag) (h : HasXK X.prog X.w X.K X.mg X.base C f) (hr : Room 3 X.A) (hg : Gl X C) (he : PE X e te) (hK : X.K = K := by rfl) (hdb : (C == ("__debug__" : Str)) = false := by decide)
    (hse : starEach [e] X.env = (false, eval e X.env) :: starEach [] X.env := by rfl) (hpl : (backTo pos (starEach [] X.env)).any (·.1) = false := by rfl) : PE X (.Call (.Name C p) [e] [] pos) (tXv K C f te) := by
  subst hK
  obtain ⟨fd, ps, O, B, _⟩ := h.ex
  refine ⟨fun pins s σ H Q I h0 => ?_⟩
  obtain ⟨xb, nm, q, N, bs, bm, sn, sub, ab, col, dd, k0, k1, k2, k3, k5, hC, hbm⟩ := h.k.oex.cls
  refine wpAny_Call_Name_kw (ld_glob I hg h.k.glo ?_ hdb)
  refine PySem.W.callWith_K (h₀ := X.base) I.ok.mod.kin h.k.oex.kC (thn ((pa_cons he pa_nil hse).run pos pins s σ H (fun vs H1 => match vs with
    | [y] => ∀ a d, H1 a = none → H1 d = none → d ≠ a → Q (.ref a) (upd (upd H1 d (.xd [(f, y)])) a (exo a (He.ga X.K C) (some d)))
    | _ => False) I h0) fun us s1 ⟨vs, H1, I1, r1, q1⟩ => ⟨I1.kIn, ?_⟩) hse hpl
  rcases vs with _ | ⟨y, _ | ⟨z, r⟩⟩
  · exact q1.elim
  · rcases us with _ | ⟨u, us⟩
    · exact (by simpa using r1.length : False).elim
    obtain rfl : us = [] := List.eq_nil_of_length_eq_zero (by simpa using r1.length.symm)
    show wpAny _ _ (call (.ref (He.ga X.K C)) [u]) _ _ _
    obtain ⟨hp, g, dr, tk, os⟩ := s1
    have hsz : hp.objs.size ≤ hp.objs.size + 1 := Nat.le_succ _
    have hn : H1 (hp.objs.size + 1) = none := I1.hok.fresh hsz
    have kk : ∀ b o, hp.get? b = some o → ((hp.push (PySem.W.kdv_tup [u])).push (PySem.HandSPX.excO (He.ga X.K C) hp.objs.size)).get? b = some o := fun b o e => Heap.get?_push_of_some _ (Heap.get?_push_of_some _ e)
    have hget : ((hp.push (PySem.W.kdv_tup [u])).push (PySem.HandSPX.excO (He.ga X.K C) hp.objs.size)).get? (hp.objs.size + 1) = some (PySem.HandSPX.excO (He.ga X.K C) hp.objs.size) := by heap_get
    have I2 : Inv X pins σ (upd H1 (hp.objs.size + 1) (exo (hp.objs.size + 1) (He.ga X.K C) none)) ⟨(hp.push (PySem.W.kdv_tup [u])).push (PySem.HandSPX.excO (He.ga X.K C) hp.objs.size), g, dr, tk, os⟩ :=
      I1.laid (t' := tk) (a := hp.objs.size + 1) (o := exo (hp.objs.size + 1) (He.ga X.K C) none) (h' := (hp.push (PySem.W.kdv_tup [u])).push (PySem.HandSPX.excO (He.ga X.K C) hp.objs.size)) kk hsz (exo_ok hget)
    have r2 : Vals [V.ref (hp.objs.size + 1), y] [Value.ref (hp.objs.size + 1), u] := .cons rfl r1
    have hsp : sp_ini X.K C f [V.ref (hp.objs.size + 1), y] (upd H1 (hp.objs.size + 1) (exo (hp.objs.size + 1) (He.ga X.K C) none)) (fun v H2 => v = .non ∧ ∃ dx, H1 dx = none ∧ dx ≠ hp.objs.size + 1 ∧ H2 = upd (upd (upd H1 (hp.objs.size + 1) (exo (hp.objs.size + 1) (He.ga X.K C) none)) dx (exd dx [(f, y)])) (hp.objs.size + 1) (exo (hp.objs.size + 1) (He.ga X.K C) (some dx))) (fun _ _ _ => False) :=
      ⟨hp.objs.size + 1, y, rfl, upd_same, fun dx h1 h2 => ⟨rfl, dx, by rw [upd_ne h2] at h1; exact h1, h2, rfl⟩⟩
    have hl : [Value.ref (hp.objs.size + 1), u].length = ps.length := by
      have e := r2.length
      rw [O.len _ _ _ _ hsp] at e
      exact e.symm
    refine wpAny_call (PySem.HandSPX.call_own (TPE.base xb) (fun Y => TPE.refsXB_contains Y bm hbm) (I1.kIn _ _ hC) (PySem.W.looks_findIn I1.kIn h.k.ini) (fun self => PySem.W.bind_fn I1.kIn self h.k.fin) (by show 1 ≤ sizeLine; rw [sizeLine_eq]; decide)
      (codeAny_mono (O.run _ X.stack _ _ ⟨[Value.ref (hp.objs.size + 1), u], []⟩ [Value.ref (hp.objs.size + 1), u] _ _ (fun _ _ _ => False) (hr.make (He.ga X.K C) [u] []) (I2.env0.make (He.ga X.K C) [u] []) (B _ [Value.ref (hp.objs.size + 1), u] I2.kIn hl) r2 hsp) fun r s' hq' => ?_))
    cases r with
    | error er => exact pass0 pins σ _ _ er s' I2 hq'
    | ok fl =>
      cases fl with
      | ret u => exact xv_end I2 hq' fun d n1 n2 => q1 _ d hn n1 n2
      | next => exact False.elim hq'
      | brk => exact False.elim hq'
      | cont => exact False.elim hq'
  · exact q1.elim
theorem pe_xvK {nm : Str} {kpos : Pos} (K : PySem.W.Frag) (h : HasXK X.prog X.w X.K X.mg X.base C f) (hr : Room 3 X.A) (hg : Gl X C) (he : PE X e te) (hK : X.K = K := by rfl) (hdb : (C == ("__debug__" : Str)) = false := by decide)
    (hall : (backToKw pos (keywordEach [⟨some nm, e, kpos⟩] X.env)).all (·.1.isSome) = true := by rfl) (hks : (backToKw pos (keywordEach [⟨some nm, e, kpos⟩] X.env)).filterMap (·.1) = [f] := by rfl)
    (hpl : ((backTo pos (starEach [] X.env)).any (·.1) || (backToKw pos (keywordEach [⟨some nm, e, kpos⟩] X.env)).any (·.1.isNone)) = false := by rfl) : PE X (.Call (.Name C p) [] [⟨some nm, e, kpos⟩] pos) (tXv K C f te) := by
  subst hK
  obtain ⟨fd, ps, O, _, B⟩ := h.ex
  refine ⟨fun pins s σ H Q I h0 => ?_⟩
  obtain ⟨xb, nm', q, N, bs, bm, sn, sub, ab, col, dd, k0, k1, k2, k3, k5, hC, hbm⟩ := h.k.oex.cls
  refine wpAny_Call_Name_kw (ld_glob I hg h.k.glo ?_ hdb)
  refine PySem.W.callWith_KW0 (h₀ := X.base) I.ok.mod.kin h.k.oex.kC hall (thn ((pk_cons (nm := some nm) (kpos := kpos) he pk_nil).run pos pins s σ H (fun vs H1 => match vs with
    | [y] => ∀ a d, H1 a = none → H1 d = none → d ≠ a → Q (.ref a) (upd (upd H1 d (.xd [(f, y)])) a (exo a (He.ga X.K C) (some d)))
    | _ => False) I h0) fun us s1 ⟨vs, H1, I1, r1, q1⟩ => ⟨I1.kIn, ?_⟩) hpl
  rcases vs with _ | ⟨y, _ | ⟨z, r⟩⟩
  · exact q1.elim
  · rcases us with _ | ⟨u, us⟩
    · exact (by simpa using r1.length : False).elim
    obtain rfl : us = [] := List.eq_nil_of_length_eq_zero (by simpa using r1.length.symm)
    rw [hks]
    show wpAny _ _ (call (.ref (He.ga X.K C)) [] [(f, u)]) _ _ _
    obtain ⟨hp, g, dr, tk, os⟩ := s1
    have hsz : hp.objs.size ≤ hp.objs.size + 1 := Nat.le_succ _
    have hn : H1 (hp.objs.size + 1) = none := I1.hok.fresh hsz
    have kk : ∀ b o, hp.get? b = some o → ((hp.push (PySem.W.kdv_tup [])).push (PySem.HandSPX.excO (He.ga X.K C) hp.objs.size)).get? b = some o := fun b o e => Heap.get?_push_of_some _ (Heap.get?_push_of_some _ e)
    have hget : ((hp.push (PySem.W.kdv_tup [])).push (PySem.HandSPX.excO (He.ga X.K C) hp.objs.size)).get? (hp.objs.size + 1) = some (PySem.HandSPX.excO (He.ga X.K C) hp.objs.size) := by heap_get
    have I2 : Inv X pins σ (upd H1 (hp.objs.size + 1) (exo (hp.objs.size + 1) (He.ga X.K C) none)) ⟨(hp.push (PySem.W.kdv_tup [])).push (PySem.HandSPX.excO (He.ga X.K C) hp.objs.size), g, dr, tk, os⟩ :=
      I1.laid (t' := tk) (a := hp.objs.size + 1) (o := exo (hp.objs.size + 1) (He.ga X.K C) none) (h' := (hp.push (PySem.W.kdv_tup [])).push (PySem.HandSPX.excO (He.ga X.K C) hp.objs.size)) kk hsz (exo_ok hget)
    have r2 : Vals [V.ref (hp.objs.size + 1), y] [Value.ref (hp.objs.size + 1), u] := .cons rfl r1
    have hsp : sp_ini X.K C f [V.ref (hp.objs.size + 1), y] (upd H1 (hp.objs.size + 1) (exo (hp.objs.size + 1) (He.ga X.K C) none)) (fun v H2 => v = .non ∧ ∃ dx, H1 dx = none ∧ dx ≠ hp.objs.size + 1 ∧ H2 = upd (upd (upd H1 (hp.objs.size + 1) (exo (hp.objs.size + 1) (He.ga X.K C) none)) dx (exd dx [(f, y)])) (hp.objs.size + 1) (exo (hp.objs.size + 1) (He.ga X.K C) (some dx))) (fun _ _ _ => False) :=
      ⟨hp.objs.size + 1, y, rfl, upd_same, fun dx h1 h2 => ⟨rfl, dx, by rw [upd_ne h2] at h1; exact h1, h2, rfl⟩⟩
    refine wpAny_call (TPE.call_ownK (TPE.base xb) (fun Y => TPE.refsXB_contains Y bm hbm) (I1.kIn _ _ hC) (PySem.W.looks_findIn I1.kIn h.k.ini) (fun self => PySem.W.bind_fn I1.kIn self h.k.fin)
      (codeAny_mono (O.run _ X.stack _ _ ⟨[Value.ref (hp.objs.size + 1)], [(f, u)]⟩ [Value.ref (hp.objs.size + 1), u] _ _ (fun _ _ _ => False) (hr.make (He.ga X.K C) [] [(f, u)]) (I2.env0.make (He.ga X.K C) [] [(f, u)]) (.of_eq (B _ _)) r2 hsp) fun r s' hq' => ?_))
    cases r with
    | error er => exact pass0 pins σ _ _ er s' I2 hq'
    | ok fl =>
      cases fl with
      | ret u => exact xv_end I2 hq' fun d n1 n2 => q1 _ d hn n1 n2
      | next => exact False.elim hq'
      | brk => exact False.elim hq'
      | cont => exact False.elim hq'
  · exact q1.elim
def tXv0 (K : PySem.W.Frag) (C : Str) : TE := fun _ H Q => ∀ a, H a = none → Q (.ref a) (upd H a (exo a (He.ga K C) none))
theorem pe_xv0 (K : PySem.W.Frag) (h : Exc0 X.K X.mg C) (hg : Gl X C) (hK : X.K = K := by rfl) (hdb : (C == ("__debug__" : Str)) = false := by decide) : PE X (.Call (.Name C p) [] [] pos) (tXv0 K C) := by
  subst hK
  refine ⟨fun pins s σ H Q I q => ?_⟩
  refine wpAny_Call_Name_kw (ld_glob I hg h.glo ?_ hdb)
  refine PySem.W.callWith_K0 I.kIn h.keep ?_
  show wpAny _ _ (call (.ref (He.ga X.K C)) []) _ _ s
  obtain ⟨bm, N, nm, qn, bs, hdct, sn, sub, ab, col, dd, k0, k1, k2, k3, k5, mN, hC, hN, hni, T⟩ := exc_obj I.kIn h.own
  obtain ⟨hp, g, d, t, os⟩ := s
  refine wpAny_call_exc_subT (TPE.base .le) T hC hN hni (fun h' a hm => ?_) (Nat.zero_le _)
  have hn : H a = none := I.hok.gone hm.new
  obtain ⟨t1, ht, _, _⟩ := hm.there
  exact ⟨.ref a, upd H a (exo a (He.ga X.K C) none), I.laidN hm.keeps hm.new hn (exo_ok ht), rfl, q a hn⟩
def tCallV (sp : Addr × Obj → Sp) (t : TA) : TE := fun σ H Q => t σ H fun vs H1 => ∃ (a C : Addr) (dd : Option Addr), H1 a = some (exo a C dd) ∧ ∀ oe, Zc (.ref C) dd oe → (∃ ws, oe.data = .fields ws) → sp (a, oe) vs (del H1 a) (fun v H2 => H2 a = none → Q v (upd H2 a (exo a C dd))) E0
theorem pe_fnV {k : Nat} {ps : List Str} {sp : Addr × Obj → Sp} {st : Stmt} {t : TA} (F : HasP X.prog X.w X.K X.mg X.base k x st ps sp) (hb : PosB x st ps) (hr : RoomH k X.A) (hg : X.A.guards = some []) (hgl : Gl X x)
    (ha : PA X (e :: es) t) (hdb : (x == ("__debug__" : Str)) = false := by decide) (he : starEach (e :: es) X.env = (false, eval e X.env) :: starEach es X.env := by rfl)
    (hpl : (backTo pos (starEach es X.env)).any (·.1) = false := by rfl) : PE X (.Call (.Name x q) (e :: es) [] pos) (tCallV sp t) := by
  obtain ⟨fd, FD, G⟩ := F.ex
  refine ⟨fun pins s σ H Q I h => ?_⟩
  refine wpAny_Call_Name_kw (ld_glob I hgl F.glo ?_ hdb)
  refine PySem.W.callWith_K (h₀ := X.base) I.ok.mod.kin FD.kp (thn (ha.run pos pins s σ H _ I h) fun us s1 ⟨vs, H1, I1, r, a, C, dd, ea, q⟩ => ⟨I1.kIn, ?_⟩) he hpl
  obtain ⟨t1, hoe⟩ := exo_at I1.hok ea
  have q2 := q ({ cls := .ref C, dict := dd, data := .fields #[.ref t1, .none, .none, .none, .bool false, .none] } : Obj) ⟨rfl, rfl⟩ ⟨_, rfl⟩
  have naf : a ∉ frs X.stack := fun hm => by
    have z := I1.stkFree a hm
    rw [ea] at z
    cases z
  have neN : ∀ {b : Addr}, H1 b = none → b ≠ a := fun {b} n z => by
    rw [z, ea] at n
    cases n
  obtain ⟨hp, g, dr, tk, os⟩ := s1
  have U0 : Un X.fs [] H1 (del H1 a) hp hp := {
    keep := fun b o q _ _ _ => q
    slot := fun b o q _ _ _ => ⟨o.slots, q⟩
    free := fun b o q n _ => by rw [del_ne (neN n)]; exact n
    there := fun b o q _ => ⟨o, q⟩
    tups := fun b xs q => by rw [del_ne (at_ne ea q exo_tup)]; exact q
    frzs := fun b o v q => by rw [del_ne (at_ne ea q exo_frz)]; exact q
    tbls := fun b ps q => ⟨#[], by rw [del_ne (at_ne ea q exo_tbl), q]; simp⟩ }
  have I1' : Inv X pins σ (del H1 a) ⟨hp, g, dr, tk, os⟩ := I1.un (t' := tk) U0 fun b o z => by
    have hba : b ≠ a := fun z2 => by
      rw [z2, del_same] at z
      cases z
    rw [del_ne hba] at z
    exact (I1.hok b o z).stay (fun c v hc y => y) (fun c hc => by rw [del_ne (at_ne ea hc exo_own)]; exact hc) (fun c xs hc => by rw [del_ne (at_ne ea hc exo_tup)]; exact hc)
  obtain ⟨kV, doc, pm, an, cdv, ct, rfl⟩ := FunD.noDef FD
  have b := hb kV doc pm an cdv ct us (by rw [← r.length]; exact G.len _ _ _ _ _ q2)
  have hpin : PinOk X.stack (del H1 a) ⟨hp, g, dr, tk, os⟩ (a, ({ cls := .ref C, dict := dd, data := .fields #[.ref t1, .none, .none, .none, .bool false, .none] } : Obj)) := ⟨hoe, del_same, naf, fun v z => by cases z⟩
  refine wpAny_call (codeAny_mono (G.run X.A X.stack ⟨hp, g, dr, tk, os⟩ (del H1 a) ⟨us, []⟩ us vs _ E0 _ hr hg hpin I1'.env0 (.of_eq b) r q2) fun z s' hq => ?_)
  cases z with
  | error e => exact (show False from hq).elim
  | ok fl =>
    cases fl with
    | ret u =>
      obtain ⟨v, H2, os2, bare2, un, hok2, rv, q3⟩ := hq
      have ha2 : H2 a = none := un.free a _ hoe del_same (by simp)
      have hg2 : s'.heap.get? a = _ := un.keep a _ hoe del_same naf (by simp)
      have neN2 : ∀ {b : Addr} {u : HO}, H2 b = some u → b ≠ a := fun {b u} n z => by
        rw [z, ha2] at n
        cases n
      refine I1.after ⟨v, upd H2 a (exo a C dd), os2, bare2, ?_, ?_, rv, q3 ha2⟩
      · exact {
          keep := fun b o z n hf hx => un.keep b o z (by rw [del_ne (neN n)]; exact n) hf hx
          slot := fun b o z n hf hx => un.slot b o z (by rw [del_ne (neN n)]; exact n) hf hx
          free := fun b o z n hx => by rw [upd_ne (neN n)]; exact un.free b o z (by rw [del_ne (neN n)]; exact n) hx
          there := fun b o z hx => un.there b o z hx
          tups := fun b xs z => by
            have y := un.tups b xs (by rw [del_ne (at_ne ea z exo_tup)]; exact z)
            rw [upd_ne (neN2 y)]; exact y
          frzs := fun b o v z => by
            have y := un.frzs b o v (by rw [del_ne (at_ne ea z exo_frz)]; exact z)
            rw [upd_ne (neN2 y)]; exact y
          tbls := fun b ps z => by
            obtain ⟨m, y⟩ := un.tbls b ps (by rw [del_ne (at_ne ea z exo_tbl)]; exact z)
            exact ⟨m, by rw [upd_ne (neN2 y)]; exact y⟩ }
      · intro b o z
        by_cases hb : b = a
        · subst hb
          rw [upd_same] at z
          cases z
          exact exo_ok hg2
        · rw [upd_ne hb] at z
          exact (hok2 b o z).stay (fun c v hc y => y) (fun c hc => by rw [upd_ne (neN2 hc)]; exact hc) (fun c xs hc => by rw [upd_ne (neN2 hc)]; exact hc)
    | next => exact hq.elim
    | brk => exact hq.elim
    | cont => exact hq.elim
end
end TP
namespace TP
open PySem PySem.Spec PyProof.Rows L2 LamX
theorem ver12 {d : PyData} (h : verOk (badF 12) d = true) : ∃ ps : Bag, d = bagD ps ∧ BagOk ps ∧ ps.length ≤ 12 := by
  cases d with
  | tuple ds =>
    obtain ⟨ps, rfl, q1, q2⟩ := bad_inv (Option.isNone_iff_eq_none.mp h)
    exact ⟨ps, rfl, q1, by
      rcases q2 with q2 | q2
      · omega
      · rw [q2]; exact Nat.zero_le _⟩
  | _ => cases h
end TP
namespace TP
open PySem PySem.Spec PyProof.Rows L2 LamX
def XV (K : PySem.W.Frag) (H : Hp) (v : V) (e : ExE) (y : V) : Prop := ∃ (a : Addr) (dd : Option Addr), v = .ref a ∧ H a = some (exo a (He.ga K e.1) dd) ∧ DdO H e y dd
theorem XV.same {K : PySem.W.Frag} {H H' : Hp} {v y : V} {e : ExE} (h : XV K H v e y) (s : Same H H') : XV K H' v e y := by
  obtain ⟨a, dd, h1, h2, h3⟩ := h
  exact ⟨a, dd, h1, s _ _ h2, h3.same s⟩
def fldE (e : ExE) (y : V) : List V := if e.2.1 = "" then [] else [y]
theorem fldL_e {H : Hp} {e : ExE} {y : V} : ∀ {dd : Option Addr}, DdO H e y dd → fldL y dd = fldE e y
  | none, h => (if_pos h).symm
  | some _, h => (if_neg h.1).symm
theorem same_put {H H' : Hp} {a : Addr} {o : HO} (ha : H a = some o) (s : Same (del H a) H') : Same H (upd H' a o) := fun b u e => by
  by_cases z : b = a
  · subst z
    rw [upd_same]
    exact ha.symm.trans e
  · rw [upd_ne z]
    exact s b u (by rw [del_ne z]; exact e)
theorem dd_del {H : Hp} {a C : Addr} {e : ExE} {y : V} : ∀ {dd d0 : Option Addr}, H a = some (exo a C d0) → DdO H e y dd → DdO (del H a) e y dd
  | none, _, _, h => h
  | some d, _, ha, h => ⟨h.1, by
      have n : d ≠ a := fun z => by
        have q := h.2
        rw [z, ha] at q
        have q' : HO.ext _ = HO.xd _ := Option.some.inj q
        cases q'
      rw [del_ne n]
      exact h.2⟩
theorem w_kindV {K : PySem.W.Frag} {H : Hp} {v y : V} {e : ExE} {Q : VK} (h : XV K H v e y) (he : e ∈ exTabA) (k : ∀ H', Same H H' → Q (.str e.2.2) H') :
    ∃ (a C : Addr) (dd : Option Addr), H a = some (exo a C dd) ∧ ∀ oe, Zc (.ref C) dd oe → (∃ ws, oe.data = .fields ws) → spKind K (a, oe) [v] (del H a) (fun v H2 => H2 a = none → Q v (upd H2 a (exo a C dd))) E0 := by
  obtain ⟨a, dd, rfl, ha, hd⟩ := h
  exact ⟨a, _, dd, ha, fun oe hz hf => ⟨e, y, dd, rfl, he, ⟨hz, hf, dd_del ha hd⟩, fun H' s n => k _ (same_put ha s)⟩⟩
theorem w_fieldsV {K : PySem.W.Frag} {H : Hp} {v y : V} {e : ExE} {Q : VK} (h : XV K H v e y) (he : e ∈ exTabA) (k : ∀ l H', Same H H' → H' l = some (.lst (fldE e y)) → Q (.ref l) H') :
    ∃ (a C : Addr) (dd : Option Addr), H a = some (exo a C dd) ∧ ∀ oe, Zc (.ref C) dd oe → (∃ ws, oe.data = .fields ws) → spFields K (a, oe) [v] (del H a) (fun v H2 => H2 a = none → Q v (upd H2 a (exo a C dd))) E0 := by
  obtain ⟨a, dd, rfl, ha, hd⟩ := h
  refine ⟨a, _, dd, ha, fun oe hz hf => ⟨e, y, dd, rfl, he, ⟨hz, hf, dd_del ha hd⟩, fun l H' s hl n => k l _ (same_put ha s) ?_⟩⟩
  rw [upd_ne (fun z => by rw [z, n] at hl; cases hl), hl, fldL_e hd]
inductive ErrL (K : PySem.W.Frag) (H : Hp) : List V → List (ExE × PyData) → Prop
  | nil : ErrL K H [] []
  | cons {v y : V} {q : ExE × PyData} {xs : List V} {qs : List (ExE × PyData)} (h1 : q.1 ∈ exTabA) (h2 : XV K H v q.1 y) (h3 : Dx K H y q.2) (h4 : ShowsX q.2) (r : ErrL K H xs qs) : ErrL K H (v :: xs) (q :: qs)
theorem ErrL.same {K : PySem.W.Frag} {H H' : Hp} (s : Same H H') : ∀ {xs qs}, ErrL K H xs qs → ErrL K H' xs qs
  | _, _, .nil => .nil
  | _, _, .cons h1 h2 h3 h4 r => .cons h1 (h2.same s) (dx_same s h3) h4 (r.same s)
theorem ErrL.len {K : PySem.W.Frag} {H : Hp} : ∀ {xs qs}, ErrL K H xs qs → xs.length = qs.length
  | _, _, .nil => rfl
  | _, _, .cons _ _ _ _ r => by rw [List.length_cons, List.length_cons, r.len]
theorem ErrL.get {K : PySem.W.Frag} {H : Hp} : ∀ {xs qs} {i : Nat} {v : V}, ErrL K H xs qs → xs[i]? = some v → ∃ q y, qs[i]? = some q ∧ q.1 ∈ exTabA ∧ XV K H v q.1 y ∧ Dx K H y q.2 ∧ ShowsX q.2
  | _, _, 0, _, .cons h1 h2 h3 h4 _, e => by
    cases e
    exact ⟨_, _, rfl, h1, h2, h3, h4⟩
  | _, _, i + 1, _, .cons _ _ _ _ r, e => r.get (i := i) e
theorem ErrL.take {K : PySem.W.Frag} {H : Hp} : ∀ {xs qs} (n : Nat), ErrL K H xs qs → ErrL K H (xs.take n) (qs.take n)
  | _, _, 0, _ => by rw [List.take_zero, List.take_zero]; exact .nil
  | _, _, n + 1, .nil => .nil
  | _, _, n + 1, .cons h1 h2 h3 h4 r => .cons h1 h2 h3 h4 (r.take n)
theorem ErrL.app {K : PySem.W.Frag} {H : Hp} : ∀ {xs qs ys rs}, ErrL K H xs qs → ErrL K H ys rs → ErrL K H (xs ++ ys) (qs ++ rs)
  | _, _, _, _, .nil, h => h
  | _, _, _, _, .cons h1 h2 h3 h4 r, h => .cons h1 h2 h3 h4 (r.app h)
def xRow (q : ExE × PyData) : List Str := if q.1.2.1 = "" then [q.1.2.2] else [q.1.2.2, q.2.shown]
def errT (qs : List (ExE × PyData)) : Str := Txt.join " " (qs.flatMap xRow)
end TP
namespace TP
open PySem PySem.Spec PyProof.Rows L2 LamX
theorem roomH {k j : Nat} {A : Around} (r : Room k A) (h : j ≤ k) : RoomH j A := L2H.RoomH.mono (j := j) (k := k) ⟨r.dp, r.un⟩ h
theorem w_kindC {K : PySem.W.Frag} {i : Nat} {σ : L2.St} {H : Hp} {v y : V} {e : ExE} {Q : VK} (hv : σ[i]? = some (some v)) (h : XV K H v e y) (he : e ∈ exTabA) (k : ∀ H', Same H H' → Q (.str e.2.2) H') : tCallV (spKind K) (tCons (tVar i) tNil) σ H Q := ⟨v, hv, w_kindV h he k⟩
theorem w_fieldsC {K : PySem.W.Frag} {i : Nat} {σ : L2.St} {H : Hp} {v y : V} {e : ExE} {Q : VK} (hv : σ[i]? = some (some v)) (h : XV K H v e y) (he : e ∈ exTabA) (k : ∀ l H', Same H H' → H' l = some (.lst (fldE e y)) → Q (.ref l) H') : tCallV (spFields K) (tCons (tVar i) tNil) σ H Q := ⟨v, hv, w_fieldsV h he k⟩
def GivesE (K : PySem.W.Frag) (σ : L2.St) (ta : TA) (qs : List (ExE × PyData)) : Prop := ∀ (H : Hp) (P : List V → Hp → Prop), (∀ xs H', Same H H' → ErrL K H' xs qs → P xs H') → ta σ H P
theorem ge_nil {K : PySem.W.Frag} {σ : L2.St} : GivesE K σ tNil [] := fun H P k => k [] H (Same.refl _) .nil
theorem ge_cons {K : PySem.W.Frag} {σ : L2.St} {C f wd : Str} {v : V} {d : PyData} {ta : TA} {qs : List (ExE × PyData)} (hm : ((C, f, wd) : ExE) ∈ exTabA) (hf : f ≠ "") (hd : ∀ H, Dx K H v d) (hs : ShowsX d) (r : GivesE K σ ta qs) : GivesE K σ (tCons (tXv K C f (tC v)) ta) (((C, f, wd), d) :: qs) :=
  fun H P k a dx ha hd1 hn => r _ _ fun xs H' s he => by
    have hx : XV K (upd (upd H dx (.xd [(f, v)])) a (exo a (He.ga K C) (some dx))) (.ref a) (C, f, wd) v := ⟨a, some dx, rfl, upd_same, hf, by rw [upd_ne hn, upd_same]⟩
    exact k _ _ (((same_new hd1).trans (same_new (show (upd H dx (.xd [(f, v)])) a = none by rw [upd_ne (Ne.symm hn)]; exact ha))).trans s) (.cons hm (hx.same s) (hd _) hs he)
theorem ge_cons0 {K : PySem.W.Frag} {σ : L2.St} {C wd : Str} {ta : TA} {qs : List (ExE × PyData)} (hm : ((C, "", wd) : ExE) ∈ exTabA) (hs : ShowsX .none) (r : GivesE K σ ta qs) : GivesE K σ (tCons (tXv0 K C) ta) (((C, "", wd), .none) :: qs) :=
  fun H P k a ha => r _ _ fun xs H' s he => by
    have hx : XV K (upd H a (exo a (He.ga K C) none)) (.ref a) (C, "", wd) .non := ⟨a, none, rfl, upd_same, rfl⟩
    exact k _ _ ((same_new ha).trans s) (.cons hm (hx.same s) .non hs he)
theorem w_lstE {K : PySem.W.Frag} {σ : L2.St} {H : Hp} {ta : TA} {qs : List (ExE × PyData)} {Q : VK} (g : GivesE K σ ta qs) (hq : qs.length ≤ 1000) (k : ∀ p xs H', Same H H' → H' p = some (.lst xs) → ErrL K H' xs qs → Q (.ref p) H') : tLst ta σ H Q :=
  g H _ fun xs H' s he => ⟨by rw [he.len, sizeLine_eq]; omega, fun p hp => k p xs _ (s.trans (same_new hp)) upd_same (he.same (same_new hp))⟩
end TP
namespace TP
open PySem PySem.Spec PyProof.Rows L2 LamX
abbrev errsA : List (ExE × PyData) := [(("InvalidCapacity", "capacity", "capacity"), .int 1), (("InvalidName", "name", "name"), .int 2), (("InvalidTimes", "times", "times"), .int 3), (("InvalidCounts", "index", "counts"), .int 4), (("InvalidSummary", "index", "summary"), .int 5), (("InvalidOrder", "index", "order"), .int 6)]
abbrev errsB : List (ExE × PyData) := [(("InvalidPlan", "index", "plan"), .int 7), (("InvalidText", "text", "text"), .int 8), (("InvalidSize", "size", "size"), .int 9), (("InvalidNumber", "number", "number"), .int 10), (("InvalidSlots", "slots", "slots"), .int 11)]
abbrev errsC : List (ExE × PyData) := [(("InvalidIndex", "index", "index"), .int 12), (("InvalidAction", "index", "action"), .none), (("InvalidLine", "line", "line"), .int 14), (("NotASummary", "value", "notsummary"), .int 15), (("CapacitiesDiffer", "capacity", "differ"), .int 16)]
abbrev errsD : List (ExE × PyData) := [(("Busy", "", "busy"), .none), (("NothingToUndo", "", "undo"), .none), (("TooManyNames", "found", "names"), .int 17), (("TooManyActions", "found", "actions"), .int 18), (("InvalidName", "name", "name"), .int 19)]
theorem w_catE {K : PySem.W.Frag} {σ : L2.St} {H : Hp} {ta : TA} {i : Nat} {l : Addr} {xs : List V} {qs qs2 : List (ExE × PyData)} {Q : VK} (hv : σ[i]? = some (some (.ref l))) (hl : H l = some (.lst xs)) (he : ErrL K H xs qs) (hq : qs.length ≤ 1000) (g : GivesE K σ ta qs2) (hq2 : qs2.length ≤ 1000)
    (k : ∀ p ys H', Same H H' → H' p = some (.lst ys) → ErrL K H' ys (qs ++ qs2) → Q (.ref p) H') : tOp rCat (tVar i) (tLst ta) σ H Q :=
  ⟨.ref l, hv, w_lstE g hq2 fun p2 xs2 H2 s2 hl2 he2 => ⟨l, p2, xs, xs2, rfl, rfl, s2 _ _ hl, hl2, by rw [he.len, he2.len, sizeLine_eq]; omega, fun p hp => k p _ _ (s2.trans (same_new hp)) upd_same (((he.same s2).app he2).same (same_new hp))⟩⟩
end TP
namespace TP
open PySem PySem.Spec PyProof.Rows L2 LamX
theorem row_ne {H : Hp} {l D : Addr} {acc xs : List V} {w : Str} (hD : H D = some (.lst acc)) (ha : ∀ y ∈ acc, ∃ l, y = V.ref l) (hl : H l = some (.lst (.str w :: xs))) : l ≠ D := fun z => by
  subst z
  rw [hD] at hl
  cases hl
  obtain ⟨_, e⟩ := ha _ List.mem_cons_self
  cases e
def Rows (H : Hp) (R : Addr) (wd : Str) (P : V → Prop) (n : Nat) (ls : List V) : Prop := H R = some (.lst ls) ∧ ls.length = n ∧ ∀ y ∈ ls, ∃ l z, y = .ref l ∧ l ≠ R ∧ H l = some (.lst [.str wd, z]) ∧ P z
theorem rows_x {H H' : Hp} {R : Addr} {wd : Str} {P : V → Prop} {n : Nat} {ls : List V} (x : ExtN H H') (h : Rows H R wd P n ls) : Rows H' R wd P n ls := ⟨lst_x x h.1, h.2.1, fun y hy => by
  obtain ⟨l, z, h1, h2, h3, h4⟩ := h.2.2 y hy
  exact ⟨l, z, h1, h2, lst_x x h3, h4⟩⟩
theorem rows_add {H : Hp} {R l : Addr} {wd : Str} {P : V → Prop} {n : Nat} {ls : List V} {z : V} (h : Rows H R wd P n ls) (hl : H l = some (.lst [.str wd, z])) (hp : P z) : Rows (upd H R (.lst (ls ++ [.ref l]))) R wd P (n + 1) (ls ++ [.ref l]) := by
  have hne : l ≠ R := row_ne h.1 (fun y hy => by obtain ⟨l, _, e, _⟩ := h.2.2 y hy; exact ⟨l, e⟩) hl
  refine ⟨upd_same, by simp [h.2.1], fun y hy => ?_⟩
  rcases List.mem_append.mp hy with hy | hy
  · obtain ⟨m, w, h1, h2, h3, h4⟩ := h.2.2 y hy
    exact ⟨m, w, h1, h2, by rw [upd_ne h2]; exact h3, h4⟩
  · exact ⟨l, z, List.mem_singleton.mp hy, hne, by rw [upd_ne hne]; exact hl, hp⟩
theorem rows_one {H : Hp} {R l : Addr} {wd : Str} {P : V → Prop} {z : V} (hR : H R = none) (hl : H l = some (.lst [.str wd, z])) (hp : P z) : Rows (upd H R (.lst [.ref l])) R wd P 1 [.ref l] := by
  have hne : l ≠ R := fun e => by rw [e, hR] at hl; cases hl
  exact ⟨upd_same, rfl, fun y hy => ⟨l, z, List.mem_singleton.mp hy, hne, by rw [upd_ne hne]; exact hl, hp⟩⟩
section
variable {H : Hp} {Q : VK} {d : PyData}
theorem w_dueEq (K : PySem.W.Frag) (h : Q (.bl (verOk (badF 12) d)) H) : rEq (verDue (badF 12) d) (.int (-1)) H Q := by
  cases ho : verOk (badF 12) d with
  | true =>
    rw [ver_due ho]
    refine w_eqI ?_
    rw [decide_eq_true rfl]
    rwa [ho] at h
  | false =>
    obtain ⟨g1, g2, _⟩ := ver_no (K := K) (H := H) ho
    rw [g1] at g2 ⊢
    refine ⟨ver_scal, ?_⟩
    rw [decide_eq_false g2]
    rwa [ho] at h
theorem w_dueNe (K : PySem.W.Frag) (h : Q (.bl (!verOk (badF 12) d)) H) : rNe (verDue (badF 12) d) (.int (-1)) H Q := by
  cases ho : verOk (badF 12) d with
  | true =>
    rw [ver_due ho]
    refine w_neI ?_
    rw [ho] at h
    exact h
  | false =>
    obtain ⟨g1, g2, _⟩ := ver_no (K := K) (H := H) ho
    rw [g1] at g2 ⊢
    refine ⟨ver_scal, ?_⟩
    rw [ho] at h
    rw [decide_eq_false g2]
    exact h
end
end TP
namespace TP
open PySem PySem.Spec PyProof.Rows L2 LamX
theorem dxs_const {K : PySem.W.Frag} {H : Hp} {d : PyData} : ∀ {ls : List V} {n : Nat}, ls.length = n → (∀ y ∈ ls, Dx K H y d) → DxAll K H ls (List.replicate n d)
  | [], _, rfl, _ => .nil
  | y :: ls, _, rfl, h => .cons (h y List.mem_cons_self) (dxs_const (ls := ls) rfl fun z hz => h z (List.mem_cons_of_mem _ hz))
theorem counts_shows {d : PyData} (h : d = .none ∨ ∃ i : Nat, d = .int (i : Nat) ∧ i < 5001) : ShowsX (.list (List.replicate 5 (.list [.str "counts", d]))) := by
  have hb : rbX (.str "counts") ≤ 100 := by decide +kernel
  have ho : okX (.str "counts") = true := by decide +kernel
  have h5 : (5001 : Int) ≤ 10 ^ 100 := by decide
  have hd : okX d = true ∧ rbX d ≤ 1921 ∧ d.depth = 0 ∧ d.hasDict = false := by
    rcases h with rfl | ⟨i, rfl, hi⟩
    · exact ⟨rfl, by decide, rfl, rfl⟩
    · exact ⟨decide_eq_true (log2_le _ (by omega) (by omega)), Nat.le_refl _, rfl, rfl⟩
  obtain ⟨h1, h2, h3, h4⟩ := hd
  generalize hx : PyData.list [.str "counts", d] = x
  have x1 : okX x = true := by
    subst hx
    show (okX (.str "counts") && (okX d && true)) = true
    rw [ho, h1]; rfl
  have x2 : rbX x ≤ 3000 := by
    subst hx
    show (rbX (.str "counts") + 2 + (rbX d + 2 + 0)) + 2 ≤ _
    omega
  have x3 : x.depth ≤ 1 := by
    subst hx
    show max 0 (max d.depth 0) + 1 ≤ 1
    rw [h3]; decide
  have x4 : x.hasDict = false := by
    subst hx
    show (false || (d.hasDict || false)) = false
    rw [h4]; rfl
  refine ⟨?_, ?_, ?_, ?_⟩
  · show (okX x && (okX x && (okX x && (okX x && (okX x && true))))) = true
    rw [x1]; rfl
  · show (rbX x + 2 + (rbX x + 2 + (rbX x + 2 + (rbX x + 2 + (rbX x + 2 + 0))))) + 2 ≤ _
    omega
  · show max x.depth (max x.depth (max x.depth (max x.depth (max x.depth 0)))) + 1 ≤ 60
    omega
  · have e : (PyData.list (List.replicate 5 x)).hasDict = false := by
      show (x.hasDict || (x.hasDict || (x.hasDict || (x.hasDict || (x.hasDict || false))))) = false
      rw [x4]; rfl
    show (!(PyData.list (List.replicate 5 x)).hasDict || _) = true
    rw [e]; rfl
end TP
namespace TP
open PySem PySem.Spec PyProof.Rows L2 LamX
local macro_rules | `(tactic| tm_at "side") => `(tactic| first | decide | omega | assumption | (unfold CMul; omega) | (unfold CDiv; omega) | (unfold CPow; omega))
local macro_rules | `(tactic| tm_at "heap") => `(tactic| first | assumption | exact upd_same | (refine hp_new ?_ (by assumption); tm_at "heap") | (refine hp_same (by assumption) ?_; tm_at "heap"))
local macro_rules | `(tactic| tm_at "same") => `(tactic| first | assumption | exact Same.refl _ | (refine same_step ?_ (by assumption); tm_at "same") | (refine Same.trans ?_ (by assumption); tm_at "same"))
local macro_rules | `(tactic| tm_at "sqt") => `(tactic| first | assumption | (refine SqT.of ?_; tm_at "heap") | (refine sqt_same (same_new (by assumption)) ?_; tm_at "sqt") | (refine sqt_same (by assumption) ?_; tm_at "sqt"))
local macro_rules | `(tactic| tm_at "sql") => `(tactic| first | assumption | (refine SqL.of ?_; tm_at "heap") | (refine Same.seq (same_new (by assumption)) ?_; tm_at "sql") | (refine Same.seq (by assumption) ?_; tm_at "sql"))
local macro_rules | `(tactic| tm_at "dp") => `(tactic| first | assumption | exact Dp.int _ | exact Dp.str _ | exact Dp.bl _ | exact Dp.non | (refine dp_same (same_new (by assumption)) ?_; tm_at "dp") | (refine dp_same (by assumption) ?_; tm_at "dp"))
local macro_rules | `(tactic| tm_at "sumo") => `(tactic| first | assumption | (refine sum_same (same_new (by assumption)) ?_; tm_at "sumo") | (refine sum_same (by assumption) ?_; tm_at "sumo"))
local macro_rules | `(tactic| tm_at "h") => `(tactic| with_reducible first | (exact SqL.of (by with_reducible_and_instances tm_at "heap")) | tm_at "heap" | tm_at "dp" | tm_at "sumo" | tm_at "sql" | tm_at "sqt" | tm_at "same")
local macro_rules | `(tactic| tm_at "wp1") => `(tactic| with_reducible first
  | refine StepX.go ?_ | (refine' w_var ?h1 ?_; (case h1 => (with_unfolding_all exact rfl)))
  | refine w_seq ?_
  | refine w_gname ?_
  | refine w_nx ?_ | refine w_rt ?_
  | (refine w_I ?h1 ?_; (try (case h1 => (with_unfolding_all tm_at "side"))))
  | (refine w_allocT ?h1 ?_; (case h1 => (with_unfolding_all exact rfl)); intro p hp) | (refine w_allocL ?h1 ?_; (case h1 => (with_unfolding_all exact rfl)); intro p hp)
  | refine w_tpar ?_ | refine w_tpar3 ?_ | refine w_bk ?_ | refine w_ct ?_
  | (refine' w_aug ?h1 ?_; (case h1 => (with_unfolding_all exact rfl)))
  | (refine w_dnewK ?_; intro p hp)
  | (refine w_lenC ?h1 ?h2 ?_; (case h1 => (with_unfolding_all exact rfl)); (case h2 => (with_unfolding_all exact rfl)))
  | (refine w_kwC ?h1 ?h2 ?_; (case h1 => (with_unfolding_all exact rfl)); (case h2 => (with_unfolding_all exact rfl))))
local macro_rules | `(tactic| tm_at "wp") => `(tactic| with_reducible repeat' (first
  | refine StepX.go ?_ | (refine' w_var ?h1 ?_; (case h1 => (with_unfolding_all exact rfl)))
  | refine w_seq ?_
  | refine w_gname ?_
  | refine w_nx ?_ | refine w_rt ?_
  | (refine w_I ?h1 ?_; (try (case h1 => (with_unfolding_all tm_at "side"))))
  | (refine w_allocT ?h1 ?_; (case h1 => (with_unfolding_all exact rfl)); intro p hp) | (refine w_allocL ?h1 ?_; (case h1 => (with_unfolding_all exact rfl)); intro p hp)
  | refine w_tpar ?_ | refine w_tpar3 ?_ | refine w_bk ?_ | refine w_ct ?_
  | (refine' w_aug ?h1 ?_; (case h1 => (with_unfolding_all exact rfl)))
  | (refine w_dnewK ?_; intro p hp)
  | (refine w_lenC ?h1 ?h2 ?_; (case h1 => (with_unfolding_all exact rfl)); (case h2 => (with_unfolding_all exact rfl)))
  | (refine w_kwC ?h1 ?h2 ?_; (case h1 => (with_unfolding_all exact rfl)); (case h2 => (with_unfolding_all exact rfl)))))
local macro_rules | `(tactic| tm_at "wq") => `(tactic| with_reducible repeat' (first
  | refine StepX.go ?_ | (refine' w_var ?h1 ?_; (case h1 => (with_unfolding_all exact rfl)))
  | refine w_gname ?_
  | refine w_nx ?_ | refine w_rt ?_
  | (refine w_I ?h1 ?_; (try (case h1 => (with_unfolding_all tm_at "side"))))
  | (refine w_allocT ?h1 ?_; (case h1 => (with_unfolding_all exact rfl)); intro p hp) | (refine w_allocL ?h1 ?_; (case h1 => (with_unfolding_all exact rfl)); intro p hp)
  | refine w_tpar ?_ | refine w_tpar3 ?_ | refine w_bk ?_ | refine w_ct ?_
  | (refine' w_aug ?h1 ?_; (case h1 => (with_unfolding_all exact rfl)))
  | (refine w_dnewK ?_; intro p hp)
  | (refine w_lenC ?h1 ?h2 ?_; (case h1 => (with_unfolding_all exact rfl)); (case h2 => (with_unfolding_all exact rfl)))
  | (refine w_kwC ?h1 ?h2 ?_; (case h1 => (with_unfolding_all exact rfl)); (case h2 => (with_unfolding_all exact rfl)))))
local macro_rules | `(tactic| tm_at "wx") => `(tactic| with_reducible repeat' (first | refine w_gname ?_ | refine w_next ?_ | refine w_nx ?_))
local macro_rules | `(tactic| tm_at "held") => `(tactic| first | assumption | (refine held_same (by assumption) ?_; tm_at "held"))
local macro_rules | `(tactic| tm_at "wk") => `(tactic| repeat' (first | (refine w_allocLG ?h1 ?_; (case h1 => (with_unfolding_all exact rfl)); intro p G sg hp) | tm_at "wp1" | (refine w_isP (by assumption) (by assumption) (by tm_at "held") (by decide +kernel) ?_)))
local macro_rules | `(tactic| tm_at "vp") => `(tactic| with_reducible repeat' (first
  | refine StepX.go ?_ | (refine' w_var ?h1 ?_; (case h1 => (with_unfolding_all exact rfl)))
  | refine w_seq ?_
  | refine w_gnameN (by first | (with_reducible_and_instances simp only [List.set_cons_zero, List.set_cons_succ]; apply Eq.refl) | apply Eq.refl) ?_ | refine w_gname ?_ | refine w_setN (by first | (with_reducible_and_instances simp only [List.set_cons_zero, List.set_cons_succ]; apply Eq.refl) | apply Eq.refl) ?_
  | (refine w_I ?h1 ?_; (try (case h1 => (with_unfolding_all tm_at "side"))))
  | (refine w_allocT ?h1 ?_; (case h1 => (with_unfolding_all exact rfl)); intro p hp) | (refine w_allocL ?h1 ?_; (case h1 => (with_unfolding_all exact rfl)); intro p hp)
    | refine w_tpar ?_ | refine w_tpar3 ?_
  | (refine' w_augN ?h1 ?_; (case h1 => (with_unfolding_all exact rfl))) | (refine' w_aug ?h1 ?_; (case h1 => (with_unfolding_all exact rfl)))
  | (refine w_dnewK ?_; intro p hp)
  | (refine w_lenC ?h1 ?h2 ?_; (case h1 => (with_unfolding_all exact rfl)); (case h2 => (with_unfolding_all exact rfl)))
  | (refine w_kwC ?h1 ?h2 ?_; (case h1 => (with_unfolding_all exact rfl)); (case h2 => (with_unfolding_all exact rfl)))))
local macro_rules | `(tactic| tm_at "vq") => `(tactic| with_reducible repeat' (first
  | refine StepX.go ?_ | (refine' w_var ?h1 ?_; (case h1 => (with_unfolding_all exact rfl)))
  | refine w_gnameN (by first | (with_reducible_and_instances simp only [List.set_cons_zero, List.set_cons_succ]; apply Eq.refl) | apply Eq.refl) ?_ | refine w_gname ?_ | refine w_setN (by first | (with_reducible_and_instances simp only [List.set_cons_zero, List.set_cons_succ]; apply Eq.refl) | apply Eq.refl) ?_
  | (refine w_I ?h1 ?_; (try (case h1 => (with_unfolding_all tm_at "side"))))
  | (refine w_allocT ?h1 ?_; (case h1 => (with_unfolding_all exact rfl)); intro p hp) | (refine w_allocL ?h1 ?_; (case h1 => (with_unfolding_all exact rfl)); intro p hp)
    | refine w_tpar ?_ | refine w_tpar3 ?_
  | (refine' w_augN ?h1 ?_; (case h1 => (with_unfolding_all exact rfl))) | (refine' w_aug ?h1 ?_; (case h1 => (with_unfolding_all exact rfl)))
  | (refine w_dnewK ?_; intro p hp)
  | (refine w_lenC ?h1 ?h2 ?_; (case h1 => (with_unfolding_all exact rfl)); (case h2 => (with_unfolding_all exact rfl)))
  | (refine w_kwC ?h1 ?h2 ?_; (case h1 => (with_unfolding_all exact rfl)); (case h2 => (with_unfolding_all exact rfl)))))
local macro_rules | `(tactic| tm_at "vx") => `(tactic| with_reducible repeat' (first | refine w_gnameN (by first | (with_reducible_and_instances simp only [List.set_cons_zero, List.set_cons_succ]; apply Eq.refl) | apply Eq.refl) ?_ | refine w_gname ?_ | refine w_setN (by first | (with_reducible_and_instances simp only [List.set_cons_zero, List.set_cons_succ]; apply Eq.refl) | apply Eq.refl) ?_ | refine w_next ?_))
local macro_rules | `(tactic| tm_at "gd") => `(tactic| repeat (first | exact gd_int | exact gd_neg | exact gd_str | exact gd_bl | exact gd_non | exact gd_dct | exact gd_pow (by unfold CPow; decide) | exact gd_var (by with_unfolding_all exact rfl) (.str _) | exact ga_nil | refine ga_cons ?_ ?_ | refine gd_tup ?_ rfl | refine gl_lst ?_ rfl | refine gl_d ?_))
local macro_rules | `(tactic| tm_at "ge") => `(tactic| repeat (first | exact ge_nil | refine ge_cons (by decide +kernel) (by decide) (fun _ => .int _) ⟨by decide +kernel, by decide +kernel, by decide +kernel, by decide +kernel⟩ ?_ | refine ge_cons (by decide +kernel) (by decide) (fun _ => .non) ⟨by decide +kernel, by decide +kernel, by decide +kernel, by decide +kernel⟩ ?_ | refine ge_cons0 (by decide +kernel) ⟨by decide +kernel, by decide +kernel, by decide +kernel, by decide +kernel⟩ ?_))
abbrev N_is_whole : List Str := ["thing"]
theorem sc_is_whole : FnScope N_is_whole ["thing"] (defScope s_is_whole) := ⟨rfl, rfl, rfl, by decide +kernel, rfl, by decide +kernel, by decide +kernel⟩
theorem pb_is_whole : PosB "is_whole" s_is_whole ["thing"] := fun _ _ _ _ _ _ us hl => match us, hl with | [_], _ => rfl
abbrev N_is_from : List Str := ["thing", "least"]
theorem sc_is_from : FnScope N_is_from ["thing", "least"] (defScope s_is_from) := ⟨rfl, rfl, rfl, by decide +kernel, rfl, by decide +kernel, by decide +kernel⟩
theorem pb_is_from : PosB "is_from" s_is_from ["thing", "least"] := fun _ _ _ _ _ _ us hl => match us, hl with | [_, _], _ => rfl
abbrev N_is_name : List Str := ["thing", "letter"]
theorem sc_is_name : FnScope N_is_name ["thing"] (defScope s_is_name) := ⟨rfl, rfl, rfl, by decide +kernel, rfl, by decide +kernel, by decide +kernel⟩
theorem pb_is_name : PosB "is_name" s_is_name ["thing"] := fun _ _ _ _ _ _ us hl => match us, hl with | [_], _ => rfl
abbrev N_is_run : List Str := ["thing"]
theorem sc_is_run : FnScope N_is_run ["thing"] (defScope s_is_run) := ⟨rfl, rfl, rfl, by decide +kernel, rfl, by decide +kernel, by decide +kernel⟩
theorem pb_is_run : PosB "is_run" s_is_run ["thing"] := fun _ _ _ _ _ _ us hl => match us, hl with | [_], _ => rfl
abbrev N_first_invalid : List Str := ["thing", "most", "index", "pair"]
theorem sc_first_invalid : FnScope N_first_invalid ["thing", "most"] (defScope s_first_invalid) := ⟨rfl, rfl, rfl, by decide +kernel, rfl, by decide +kernel, by decide +kernel⟩
theorem pb_first_invalid : PosB "first_invalid" s_first_invalid ["thing", "most"] := fun _ _ _ _ _ _ us hl => match us, hl with | [_, _], _ => rfl
abbrev N_is_counts : List Str := ["thing"]
theorem sc_is_counts : FnScope N_is_counts ["thing"] (defScope s_is_counts) := ⟨rfl, rfl, rfl, by decide +kernel, rfl, by decide +kernel, by decide +kernel⟩
theorem pb_is_counts : PosB "is_counts" s_is_counts ["thing"] := fun _ _ _ _ _ _ us hl => match us, hl with | [_], _ => rfl
abbrev N_check_counts : List Str := ["thing", "invalid"]
theorem sc_check_counts : FnScope N_check_counts ["thing"] (defScope s_check_counts) := ⟨rfl, rfl, rfl, by decide +kernel, rfl, by decide +kernel, by decide +kernel⟩
theorem pb_check_counts : PosB "check_counts" s_check_counts ["thing"] := fun _ _ _ _ _ _ us hl => match us, hl with | [_], _ => rfl
abbrev N_check_name : List Str := ["thing"]
theorem sc_check_name : FnScope N_check_name ["thing"] (defScope s_check_name) := ⟨rfl, rfl, rfl, by decide +kernel, rfl, by decide +kernel, by decide +kernel⟩
theorem pb_check_name : PosB "check_name" s_check_name ["thing"] := fun _ _ _ _ _ _ us hl => match us, hl with | [_], _ => rfl
abbrev N_sum_of : List Str := ["pairs", "name", "count"]
theorem sc_sum_of : FnScope N_sum_of ["pairs"] (defScope s_sum_of) := ⟨rfl, rfl, rfl, by decide +kernel, rfl, by decide +kernel, by decide +kernel⟩
theorem pb_sum_of : PosB "sum_of" s_sum_of ["pairs"] := fun _ _ _ _ _ _ us hl => match us, hl with | [_], _ => rfl
abbrev N_table_of : List Str := ["pairs", "found", "name", "count"]
theorem sc_table_of : FnScope N_table_of ["pairs"] (defScope s_table_of) := ⟨rfl, rfl, rfl, by decide +kernel, rfl, by decide +kernel, by decide +kernel⟩
theorem pb_table_of : PosB "table_of" s_table_of ["pairs"] := fun _ _ _ _ _ _ us hl => match us, hl with | [_], _ => rfl
abbrev N_counts_of_table : List Str := ["table", "name"]
theorem sc_counts_of_table : FnScope N_counts_of_table ["table"] (defScope s_counts_of_table) := ⟨rfl, rfl, rfl, by decide +kernel, rfl, by decide +kernel, by decide +kernel⟩
theorem pb_counts_of_table : PosB "counts_of_table" s_counts_of_table ["table"] := fun _ _ _ _ _ _ us hl => match us, hl with | [_], _ => rfl
abbrev N_total : List Str := ["counts"]
theorem sc_total : FnScope N_total ["counts"] (defScope s_total) := ⟨rfl, rfl, rfl, by decide +kernel, rfl, by decide +kernel, by decide +kernel⟩
theorem pb_total : PosB "total" s_total ["counts"] := fun _ _ _ _ _ _ us hl => match us, hl with | [_], _ => rfl
abbrev N_count_of : List Str := ["counts", "name"]
theorem sc_count_of : FnScope N_count_of ["counts", "name"] (defScope s_count_of) := ⟨rfl, rfl, rfl, by decide +kernel, rfl, by decide +kernel, by decide +kernel⟩
theorem pb_count_of : PosB "count_of" s_count_of ["counts", "name"] := fun _ _ _ _ _ _ us hl => match us, hl with | [_, _], _ => rfl
abbrev N_added : List Str := ["one", "other", "found"]
theorem sc_added : FnScope N_added ["one", "other"] (defScope s_added) := ⟨rfl, rfl, rfl, by decide +kernel, rfl, by decide +kernel, by decide +kernel⟩
theorem pb_added : PosB "added" s_added ["one", "other"] := fun _ _ _ _ _ _ us hl => match us, hl with | [_, _], _ => rfl
abbrev N__law_cell : List Str := ["_law_script", "_law_k", "_law_state", "_law_cell_here"]
theorem sc__law_cell : FnScope N__law_cell ["_law_script", "_law_k"] (defScope s__law_cell) := ⟨rfl, rfl, rfl, by decide +kernel, rfl, by decide +kernel, by decide +kernel⟩
theorem pb__law_cell : PosB "_law_cell" s__law_cell ["_law_script", "_law_k"] := fun _ _ _ _ _ _ us hl => match us, hl with | [_, _], _ => rfl
abbrev N__law_pool : List Str := ["_law_cell_here", "_law_digits"]
theorem sc__law_pool : FnScope N__law_pool ["_law_cell_here"] (defScope s__law_pool) := ⟨rfl, rfl, rfl, by decide +kernel, rfl, by decide +kernel, by decide +kernel⟩
theorem pb__law_pool : PosB "_law_pool" s__law_pool ["_law_cell_here"] := fun _ _ _ _ _ _ us hl => match us, hl with | [_], _ => rfl
abbrev N__law_draw : List Str := ["_law_pool_here", "_law_many", "_law_state", "_law_digit"]
theorem sc__law_draw : FnScope N__law_draw ["_law_pool_here", "_law_many"] (defScope s__law_draw) := ⟨rfl, rfl, rfl, by decide +kernel, rfl, by decide +kernel, by decide +kernel⟩
theorem pb__law_draw : PosB "_law_draw" s__law_draw ["_law_pool_here", "_law_many"] := fun _ _ _ _ _ _ us hl => match us, hl with | [_, _], _ => rfl
abbrev N__law_words : List Str := ["_law_pool_here", "_law_many", "_law_letters", "_law_menu", "_law_way", "_law_begin", "_law_k", "_law_stem", "_law_at"]
theorem sc__law_words : FnScope N__law_words ["_law_pool_here", "_law_many"] (defScope s__law_words) := ⟨rfl, rfl, rfl, by decide +kernel, rfl, by decide +kernel, by decide +kernel⟩
theorem pb__law_words : PosB "_law_words" s__law_words ["_law_pool_here", "_law_many"] := fun _ _ _ _ _ _ us hl => match us, hl with | [_, _], _ => rfl
abbrev N__law_often : List Str := ["_law_pool_here", "_law_way"]
theorem sc__law_often : FnScope N__law_often ["_law_pool_here"] (defScope s__law_often) := ⟨rfl, rfl, rfl, by decide +kernel, rfl, by decide +kernel, by decide +kernel⟩
theorem pb__law_often : PosB "_law_often" s__law_often ["_law_pool_here"] := fun _ _ _ _ _ _ us hl => match us, hl with | [_], _ => rfl
abbrev N__law_bag : List Str := ["_law_pool_here", "_law_words_here", "_law_most", "_law_found", "_law_word"]
theorem sc__law_bag : FnScope N__law_bag ["_law_pool_here", "_law_words_here", "_law_most"] (defScope s__law_bag) := ⟨rfl, rfl, rfl, by decide +kernel, rfl, by decide +kernel, by decide +kernel⟩
theorem pb__law_bag : PosB "_law_bag" s__law_bag ["_law_pool_here", "_law_words_here", "_law_most"] := fun _ _ _ _ _ _ us hl => match us, hl with | [_, _, _], _ => rfl
abbrev N__law_kind : List Str := ["_law_e", "_law_kinds", "_law_bases", "_law_own", "_law_at", "_law_words_here"]
theorem sc__law_kind : FnScope N__law_kind ["_law_e"] (defScope s__law_kind) := ⟨rfl, rfl, rfl, by decide +kernel, rfl, by decide +kernel, by decide +kernel⟩
theorem pb__law_kind : PosB "_law_kind" s__law_kind ["_law_e"] := fun _ _ _ _ _ _ us hl => match us, hl with | [_], _ => rfl
abbrev N__law_fields : List Str := ["_law_e"]
theorem sc__law_fields : FnScope N__law_fields ["_law_e"] (defScope s__law_fields) := ⟨rfl, rfl, rfl, by decide +kernel, rfl, by decide +kernel, by decide +kernel⟩
theorem pb__law_fields : PosB "_law_fields" s__law_fields ["_law_e"] := fun _ _ _ _ _ _ us hl => match us, hl with | [_], _ => rfl
abbrev N__law_other_fields : List Str := ["_law_e"]
theorem sc__law_other_fields : FnScope N__law_other_fields ["_law_e"] (defScope s__law_other_fields) := ⟨rfl, rfl, rfl, by decide +kernel, rfl, by decide +kernel, by decide +kernel⟩
theorem pb__law_other_fields : PosB "_law_other_fields" s__law_other_fields ["_law_e"] := fun _ _ _ _ _ _ us hl => match us, hl with | [_], _ => rfl
abbrev N__law_pair : List Str := ["_law_thing_here", "_law_letters", "_law_letter"]
theorem sc__law_pair : FnScope N__law_pair ["_law_thing_here"] (defScope s__law_pair) := ⟨rfl, rfl, rfl, by decide +kernel, rfl, by decide +kernel, by decide +kernel⟩
theorem pb__law_pair : PosB "_law_pair" s__law_pair ["_law_thing_here"] := fun _ _ _ _ _ _ us hl => match us, hl with | [_], _ => rfl
abbrev N__law_due : List Str := ["_law_bag_here", "_law_at"]
theorem sc__law_due : FnScope N__law_due ["_law_bag_here"] (defScope s__law_due) := ⟨rfl, rfl, rfl, by decide +kernel, rfl, by decide +kernel, by decide +kernel⟩
theorem pb__law_due : PosB "_law_due" s__law_due ["_law_bag_here"] := fun _ _ _ _ _ _ us hl => match us, hl with | [_], _ => rfl
abbrev N__law_odd : List Str := ["_law_pool_here", "_law_word", "_law_some"]
theorem sc__law_odd : FnScope N__law_odd ["_law_pool_here", "_law_word"] (defScope s__law_odd) := ⟨rfl, rfl, rfl, by decide +kernel, rfl, by decide +kernel, by decide +kernel⟩
theorem pb__law_odd : PosB "_law_odd" s__law_odd ["_law_pool_here", "_law_word"] := fun _ _ _ _ _ _ us hl => match us, hl with | [_, _], _ => rfl
abbrev N__law_one_right : List Str := ["_law_bag_here", "_law_good", "_law_due_here", "_law_results", "_law_told"]
theorem sc__law_one_right : FnScope N__law_one_right ["_law_bag_here", "_law_good"] (defScope s__law_one_right) := ⟨rfl, rfl, rfl, by decide +kernel, rfl, by decide +kernel, by decide +kernel⟩
theorem pb__law_one_right : PosB "_law_one_right" s__law_one_right ["_law_bag_here", "_law_good"] := fun _ _ _ _ _ _ us hl => match us, hl with | [_, _], _ => rfl
abbrev N__law_right : List Str := ["_law_pool_here", "_law_words_here", "_law_good", "_law_turn", "_law_at", "_law_on", "_law_odd_here", "_law_bent", "_law_word", "_law_thing_here"]
theorem sc__law_right : FnScope N__law_right ["_law_pool_here"] (defScope s__law_right) := ⟨rfl, rfl, rfl, by decide +kernel, rfl, by decide +kernel, by decide +kernel⟩
theorem pb__law_right : PosB "_law_right" s__law_right ["_law_pool_here"] := fun _ _ _ _ _ _ us hl => match us, hl with | [_], _ => rfl
abbrev N__law_created_right : List Str := ["_law_made", "_law_due_here", "_law_named"]
theorem sc__law_created_right : FnScope N__law_created_right [] (defScope s__law_created_right) := ⟨rfl, rfl, rfl, by decide +kernel, rfl, by decide +kernel, by decide +kernel⟩
theorem pb__law_created_right : PosB "_law_created_right" s__law_created_right [] := fun _ _ _ _ _ _ us hl => match us, hl with | [], _ => rfl
abbrev N__law_read_errors : List Str := ["_law_made", "_law_row", "_law_each", "_law_field"]
theorem sc__law_read_errors : FnScope N__law_read_errors ["_law_made"] (defScope s__law_read_errors) := ⟨rfl, rfl, rfl, by decide +kernel, rfl, by decide +kernel, by decide +kernel⟩
theorem pb__law_read_errors : PosB "_law_read_errors" s__law_read_errors ["_law_made"] := fun _ _ _ _ _ _ us hl => match us, hl with | [_], _ => rfl
abbrev N__law_created_by_name : List Str := ["_law_made"]
theorem sc__law_created_by_name : FnScope N__law_created_by_name [] (defScope s__law_created_by_name) := ⟨rfl, rfl, rfl, by decide +kernel, rfl, by decide +kernel, by decide +kernel⟩
theorem pb__law_created_by_name : PosB "_law_created_by_name" s__law_created_by_name [] := fun _ _ _ _ _ _ us hl => match us, hl with | [], _ => rfl
abbrev N_law : List Str := ["_law_script", "_law_thirteen", "_law_word", "_law_k"]
theorem sc_law : FnScope N_law ["_law_script"] (defScope s_law) := ⟨rfl, rfl, rfl, by decide +kernel, rfl, by decide +kernel, by decide +kernel⟩
theorem pb_law : PosB "law" s_law ["_law_script"] := fun _ _ _ _ _ _ us hl => match us, hl with | [_], _ => rfl
def sp_is_whole (K : PySem.W.Frag) : Sp := fun vs H Q _ => ∃ (v : V) (d : PyData), vs = [v] ∧ Dx K H v d ∧ Q (.bl (wholeD d)) H
def sp_is_from (K : PySem.W.Frag) : Sp := fun vs H Q _ => ∃ (v : V) (d : PyData) (j : Int), vs = [v, .int j] ∧ Dx K H v d ∧ Q (.bl (fromD d j)) H
def sp_is_name (K : PySem.W.Frag) : Sp := fun vs H Q _ => ∃ (v : V) (d : PyData), vs = [v] ∧ Dx K H v d ∧ szD d = true ∧ ∀ H', Same H H' → Q (.bl (nameD d)) H'
def sp_is_run (K : PySem.W.Frag) : Sp := fun vs H Q _ => ∃ (v : V) (d : PyData), vs = [v] ∧ Dx K H v d ∧ szD d = true ∧ ∀ H', Same H H' → Q (.bl (runD d)) H'
theorem run_inv {K : PySem.W.Frag} {H : Hp} {v : V} {d : PyData} (h : Dx K H v d) (r : runD d = true) : ∃ a x w, v = .ref a ∧ SqT K H a [.str x, w] ∧ nmD d = x := by
  unfold runD at r
  split at r
  · rename_i a b
    cases a with
    | str x =>
      obtain ⟨p, xs, rfl, hs, hx⟩ := dx_tup_inv h
      cases hx with
      | @cons v0 _ _ _ r0 hx =>
      cases hx with
      | @cons v1 _ _ _ r1 hx =>
      cases hx
      cases dx_str_inv r0
      exact ⟨p, x, v1, rfl, hs, rfl⟩
    | _ => cases r
  · cases r
theorem getD_of {ds : List PyData} {i : Nat} {d : PyData} (h : ds[i]? = some d) : ds.getD i .none = d := by simp [List.getD, h]
def sp_first_invalid (K : PySem.W.Frag) : Sp := fun vs H Q _ => ∃ (v : V) (ds : List PyData) (m : Int), vs = [v, .int m] ∧ Dx K H v (.tuple ds) ∧ szDs ds = true ∧ ∀ H', Same H H' → Q (optV (firstBad ds m)) H'
def sp_is_counts (K : PySem.W.Frag) : Sp := fun vs H Q _ => ∃ (v : V) (d : PyData), vs = [v] ∧ Dx K H v d ∧ szD d = true ∧ ∀ H', Same H H' → Q (.bl (verOk (badF 12) d)) H'
def sp_check_counts (K : PySem.W.Frag) : Sp := fun vs H Q E => ∃ (v : V) (d : PyData), vs = [v] ∧ Dx K H v d ∧ szD d = true ∧ (verOk (badF 12) d = true → ∀ H', Same H H' → Q .non H') ∧ (verOk (badF 12) d = false → ∀ dd H', Same H H' → H' dd = some (.xd [("index", verV (badF 12) d)]) → E (.ref (He.ga K "InvalidCounts")) (some dd) H')
def sp_check_name (K : PySem.W.Frag) : Sp := fun vs H Q E => ∃ (v : V) (d : PyData), vs = [v] ∧ Dx K H v d ∧ szD d = true ∧ (nameD d = true → ∀ H', Same H H' → Q .non H') ∧ (nameD d = false → ∀ dd H', Same H H' → H' dd = some (.xd [("name", v)]) → E (.ref (He.ga K "InvalidName")) (some dd) H')
def sp_sum_of (K : PySem.W.Frag) : Sp := fun vs H Q _ => ∃ (v : V) (ps : Bag), vs = [v] ∧ Dp K H v (bagD ps) ∧ ps.length ≤ 100000 ∧ ∀ H', Same H H' → Q (.int (sumC ps)) H'
def sp_table_of (K : PySem.W.Frag) : Sp := fun vs H Q _ => ∃ (v : V) (ps : Bag), vs = [v] ∧ Dp K H v (bagD ps) ∧ ps.length ≤ 100000 ∧ ∀ a H', H a = none → Same H H' → H' a = some (.dK (kvOf (tabOf ps))) → Q (.ref a) H'
def sp_counts_of_table (K : PySem.W.Frag) : Sp := fun vs H Q _ => ∃ (a : Addr) (t : Bag), vs = [.ref a] ∧ H a = some (.dK (kvOf t)) ∧ (t.map (·.1)).Nodup ∧ t.length < 64 ∧ ∀ v ps H', Same H H' → Dp K H' v (bagD ps) → IsCan (fun n => posI (getT t n)) ps → ps.length ≤ t.length → (∀ p ∈ ps, p.1 ∈ t.map (·.1)) → Q v H'
def sp_total (K : PySem.W.Frag) : Sp := fun vs H Q E => ∃ (v : V) (d : PyData), vs = [v] ∧ Dx K H v d ∧ szD d = true ∧ (verOk (badF 12) d = true → ∀ i H', Same H H' → Q (.int i) H') ∧ (verOk (badF 12) d = false → ∀ dd H', Same H H' → H' dd = some (.xd [("index", verV (badF 12) d)]) → E (.ref (He.ga K "InvalidCounts")) (some dd) H')
def sp_count_of (K : PySem.W.Frag) : Sp := fun vs H Q E => ∃ (v nv : V) (d dn : PyData), vs = [v, nv] ∧ Dx K H v d ∧ szD d = true ∧ Dx K H nv dn ∧ szD dn = true ∧ (verOk (badF 12) d = true → nameD dn = true → ∀ i H', Same H H' → Q (.int i) H') ∧ (verOk (badF 12) d = true → nameD dn = false → ∀ dd H', Same H H' → H' dd = some (.xd [("name", nv)]) → E (.ref (He.ga K "InvalidName")) (some dd) H') ∧ (verOk (badF 12) d = false → ∀ dd H', Same H H' → H' dd = some (.xd [("index", verV (badF 12) d)]) → E (.ref (He.ga K "InvalidCounts")) (some dd) H')
def sp_added (K : PySem.W.Frag) : Sp := fun vs H Q E => ∃ (v1 v2 : V) (d1 d2 : PyData), vs = [v1, v2] ∧ Dx K H v1 d1 ∧ szD d1 = true ∧ Dx K H v2 d2 ∧ szD d2 = true ∧ (verOk (badF 12) d1 = true → verOk (badF 12) d2 = true → d2 = .tuple []) ∧ (verOk (badF 12) d1 = true → verOk (badF 12) d2 = true → ∀ y H', Same H H' → Q y H') ∧ (verOk (badF 12) d1 = true → verOk (badF 12) d2 = false → ∀ dd H', Same H H' → H' dd = some (.xd [("index", verV (badF 12) d2)]) → E (.ref (He.ga K "InvalidCounts")) (some dd) H') ∧ (verOk (badF 12) d1 = false → ∀ dd H', Same H H' → H' dd = some (.xd [("index", verV (badF 12) d1)]) → E (.ref (He.ga K "InvalidCounts")) (some dd) H')
def sp__law_cell (K : PySem.W.Frag) : Sp := fun vs H Q _ => ∃ (a : Addr) (ns : List Int) (j : Int), vs = [.ref a, .int j] ∧ SqL K H a (ns.map V.int) ∧ ns.length ≤ 100 ∧ 0 ≤ j ∧ j ≤ 1000 ∧ ∀ n H', Same H H' → Q (.int n) H'
def spc__law_pool (K : PySem.W.Frag) : Sp := spPoolC
def sp__law_pool (K : PySem.W.Frag) : Sp := spPool
theorem divp200 {i j : Int} (h0 : 0 < j) (h1 : j < 2 ^ 200) : CDivP i j := by
  refine ⟨h0, PyProof.noPylong_of_log2 ?_⟩
  exact Nat.lt_of_lt_of_le (PySem.Flt.log2_lt_of (by decide : 0 < 200) (by omega)) (by decide)
def spc__law_draw (K : PySem.W.Frag) : Sp := spDrawC
def sp__law_draw (K : PySem.W.Frag) : Sp := spDraw
def sp__law_words (K : PySem.W.Frag) : Sp := fun vs H Q _ => ∃ (p : Addr) (m : Int), vs = [.ref p, .int m] ∧ H p = some (poolO p) ∧ 0 ≤ m ∧ m ≤ 15 ∧ ∀ a ws H', H a = none → Same H H' → H' a = some (.lst (ws.map V.str)) → WordsOk ws m.toNat → Q (.ref a) H'
def sp__law_often (K : PySem.W.Frag) : Sp := fun vs H Q _ => ∃ (p : Addr), vs = [.ref p] ∧ H p = some (poolO p) ∧ ∀ (r : Int) H', 1 ≤ r → r ≤ 10 ^ 30 → Same H H' → Q (.int r) H'
def sp__law_bag (K : PySem.W.Frag) : Sp := fun vs H Q _ => ∃ (p a : Addr) (ws : List Str) (m : Int) (n : Nat), vs = [.ref p, .ref a, .int m] ∧ H p = some (poolO p) ∧ SqL K H a (ws.map V.str) ∧ WordsOk ws n ∧ n < 64 ∧ 0 ≤ m ∧ m ≤ 10 ^ 30 ∧ ∀ v ps H', Same H H' → Dp K H' v (bagD ps) → BagOk ps → (∀ q ∈ ps, q.1 ∈ ws) → ps.length ≤ n → (∀ q ∈ ps, q.2 ≤ 10 ^ 30) → (0 < m → ∀ q ∈ ps, q.2 ≤ m) → Q v H'
def sp__law_kind (K : PySem.W.Frag) : Addr × Obj → Sp := spKind K
def sp__law_fields (K : PySem.W.Frag) : Addr × Obj → Sp := spFields K
def sp__law_other_fields (K : PySem.W.Frag) : Addr × Obj → Sp := spFieldsO K
def sp__law_pair (K : PySem.W.Frag) : Sp := fun vs H Q _ => ∃ (v : V) (d : PyData), vs = [v] ∧ Dx K H v d ∧ szD d = true ∧ ∀ H', Same H H' → Q (.bl (runD d)) H'
theorem run_invD {K : PySem.W.Frag} {H : Hp} {v : V} {d : PyData} (h : Dx K H v d) (r : runD d = true) : ∃ a x w, v = .ref a ∧ SqT K H a [.str x, w] ∧ nmD d = x := by
  unfold runD at r
  split at r
  · rename_i a b
    cases a with
    | str x =>
      obtain ⟨p, xs, rfl, hs, hx⟩ := dx_tup_inv h
      cases hx with
      | @cons v0 _ _ _ r0 hx =>
      cases hx with
      | @cons v1 _ _ _ r1 hx =>
      cases hx
      cases dx_str_inv r0
      exact ⟨p, x, v1, rfl, hs, rfl⟩
    | _ => cases r
  · cases r
theorem getD_ofD {ds : List PyData} {i : Nat} {d : PyData} (h : ds[i]? = some d) : ds.getD i .none = d := by simp [List.getD, h]
def sp__law_due (K : PySem.W.Frag) : Sp := fun vs H Q _ => ∃ (v : V) (d : PyData), vs = [v] ∧ Dx K H v d ∧ szD d = true ∧ (∀ ds, d = .tuple ds → ds.length ≤ 5000) ∧ ∀ H', Same H H' → Q (verDue (badF 12) d) H'
def odd1 : List PyData := [.none, .int 0, .bool true, .str "a", .tuple [], .tuple [.str "a"], .tuple [.str "a", .int 1, .int 1], .list [.str "a", .int 1], .tuple [.str "", .int 1], .tuple [.str "A", .int 1], .tuple [.str "a1", .int 1], .tuple [.str "a b", .int 1], .tuple [.str "a", .int 0]]
def odd2 (w : Str) : List PyData := [.tuple [.str "a", .int (-1)], .tuple [.str "a", .bool true], .tuple [.str "a", .str "1"], .tuple [.str "a", .none], .tuple [.str w, .int 1], .tuple [.str w, .int 0], .tuple [.none, .int 1], .tuple [.tuple [.str "a"], .int 1], .dict []]
def odd3 (w : Str) : List PyData := [.tuple [.str "abcdefghi", .int 1], .tuple [.str "a\n", .int 1], .tuple [.int 1, .str "a"], .tuple [.str w, .list [.int 1]], .tuple [.str "zzzzzzzz", .int (10 ^ (30 : Int).toNat)], .tuple [.str "a", .tuple [.int 1]]]
def odd4 (w : Str) : List PyData := [.tuple [.list [.str w], .int 1], .tuple [.dict [], .int 1], .tuple [.str w, .dict []]]
theorem odds_small {w : Str} (hw : w.length ≤ 100) : ∀ d ∈ ((odd1 ++ odd2 w) ++ odd3 w) ++ odd4 w, smallE d = true := fun d hd => by
  have h : w.length ≤ 100000 := by omega
  have e1 : odd1.all smallE = true := by decide +kernel
  have e : (odd2 w ++ (odd3 w ++ odd4 w)).all smallE = true := by
    simp [odd2, odd3, odd4, smallE, szD, szDs, h]
    decide +kernel
  rcases List.mem_append.mp hd with hd | hd
  · rcases List.mem_append.mp hd with hd | hd
    · rcases List.mem_append.mp hd with hd | hd
      · exact List.all_eq_true.mp e1 d hd
      · exact List.all_eq_true.mp e d (List.mem_append_left _ hd)
    · exact List.all_eq_true.mp e d (List.mem_append_right _ (List.mem_append_left _ hd))
  · exact List.all_eq_true.mp e d (List.mem_append_right _ (List.mem_append_right _ hd))
def sp__law_odd (K : PySem.W.Frag) : Sp := fun vs H Q _ => ∃ (p : Addr) (w1 : Str), vs = [.ref p, .str w1] ∧ H p = some (poolO p) ∧ w1.length ≤ 100 ∧ ∀ v d H', Same H H' → Dx K H' v d → smallE d = true → Q v H'
def sp__law_one_right (K : PySem.W.Frag) : Sp := fun vs H Q _ => ∃ (v g : V) (d dg : PyData), vs = [v, g] ∧ Dx K H v d ∧ OddD d ∧ Dx K H g dg ∧ szD dg = true ∧ (verOk (badF 12) d = false → verOk (badF 12) dg = true) ∧ Tabs (tabs K) H ∧ ∀ H', ExtN H H' → Tabs (tabs K) H' → Q (.bl true) H'
def wordsN : List PyData := [.none, .int 0, .bool true, .str "", .str "A", .str "a1", .str "a b", .str "abcdefghi", .tuple [.str "a"], .list [.str "a"], .dict [], .str "a\n"]
theorem wordsN_ok : ∀ d ∈ wordsN, nameD d = false ∧ szD d = true ∧ ShowsX (.list [.str "name", d]) := fun d hd => by
  have h1 : wordsN.all (fun d => !nameD d && szD d) = true := by decide +kernel
  have h2 : wordsN.all (fun d => okX (.list [.str "name", d]) && (decide (rbX (.list [.str "name", d]) ≤ 16777216) && (decide ((PyData.list [.str "name", d]).depth ≤ 60) && topL (.list [.str "name", d])))) = true := by decide +kernel
  have a := List.all_eq_true.mp h1 d hd
  have b := List.all_eq_true.mp h2 d hd
  rw [Bool.and_eq_true, Bool.and_eq_true, Bool.and_eq_true] at b
  rw [Bool.and_eq_true] at a
  exact ⟨by simpa using a.1, a.2, b.1, of_decide_eq_true b.2.1, of_decide_eq_true b.2.2.1, b.2.2.2⟩
def thingsN : List PyData := [.none, .int 0, .bool true, .str "", .str "a", .list [], .dict [], .list [.tuple [.str "a", .int 1]]]
theorem thingsN_ok : ∀ d ∈ thingsN, OddD d := fun d hd => by
  have h1 : thingsN.all (fun d => szD d && (match d with | .tuple _ => false | _ => true)) = true := by decide +kernel
  have a := List.all_eq_true.mp h1 d hd
  rw [Bool.and_eq_true] at a
  refine ⟨a.1, fun ds e => ?_, fun ps e => ?_⟩
  · rw [e] at a; cases a.2
  · rw [e] at a; cases a.2
theorem gd_negG {K : PySem.W.Frag} {σ : L2.St} {H : Hp} {te : TE} {i : Int} (h : GivesD K σ H te (.int i)) : GivesD K σ H (tUn (rU fun i => .int (-i)) te) (.int (-i)) := fun H0 s Q k => h H0 s _ fun v H' s' d' => by
  cases dx_int_inv d'
  exact ⟨i, rfl, k _ _ s' (.int _)⟩
theorem gl_opA {K : PySem.W.Frag} {σ : L2.St} {H : Hp} {ds : List PyData} {r : R2} {ta tb : TE} {g : TG} {u : TS} {De : Ends} (h : GivesL K σ H ta ds) (k : ∀ l xs H', Same H H' → H' l = some (.lst xs) → DxAll K H' xs ds → tb σ H' fun y H2 => r (.ref l) y H2 fun v H3 => g v σ H3 (u De)) : tSeq (tAsg (tOp r ta tb) g) u De σ H := h H (Same.refl _) _ k
theorem dxs_rev {K : PySem.W.Frag} {H : Hp} : ∀ {xs : List V} {ds : List PyData}, DxAll K H xs ds → DxAll K H xs.reverse ds.reverse
  | _, _, .nil => .nil
  | _, _, .cons h r => by rw [List.reverse_cons, List.reverse_cons]; exact dxs_app (dxs_rev r) (.cons h .nil)
section
variable {K : PySem.W.Frag} {σ : L2.St} {H : Hp} {ta tb : TE} {ds es : List PyData}
theorem gd_revT (h1 : GivesD K σ H ta (.tuple ds)) (hz : ds.length ≤ 100000) : GivesD K σ H (tStepT K (-1) ta) (.tuple ds.reverse) := fun H0 s Q k => h1 H0 s _ fun v H1 s1 d1 => by
  obtain ⟨a, xs, rfl, hs, hx⟩ := dx_tup_inv d1
  refine ⟨a, xs, rfl, hs, ?_, fun p hp => ?_⟩
  · rw [stepL_back, List.length_reverse, dxs_len hx]; exact sz_le hz
  · rw [stepL_back]
    exact k _ _ (s1.trans (same_new hp)) (.tup (SqT.of upd_same) (dxs_same (same_new hp) (dxs_rev hx)))
theorem gd_listT (h1 : GivesD K σ H ta (.tuple ds)) : GivesD K σ H (tCB (rListS K) (tCons ta tNil)) (.list ds) := fun H0 s Q k => h1 H0 s _ fun v H1 s1 d1 => by
  obtain ⟨a, xs, rfl, hs, hx⟩ := dx_tup_inv d1
  exact w_listT hs fun l hl => k _ _ (s1.trans (same_new hl)) (.lst (SqL.of upd_same) (dxs_same (same_new hl) hx))
theorem gd_slV {i : Nat} {j : Int} (h1 : GivesD K σ H ta (.tuple ds)) (e : σ[i]? = some (some (.int j))) : GivesD K σ H (L2.tSl (rSlA K) ta tNoPart (tPart (tVar i))) (.tuple (cutL ds none (some j))) := fun H0 s Q k =>
  h1 H0 s _ fun v H1 s1 d1 => ⟨.int j, e, j, rfl, w_slX d1 fun v' H2 s2 d2 => k _ _ (s1.trans s2) d2⟩
theorem gd_slS {i j : Nat} {x y : Int} (h1 : GivesD K σ H ta (.tuple ds)) (e1 : σ[i]? = some (some (.int x))) (e2 : σ[j]? = some (some (.int y))) : GivesD K σ H (L2.tSl (rSlA K) ta (tPart (tOp (rI0 fun i j => .int (i + j)) (tVar i) (tVar j))) tNoPart) (.tuple (cutL ds (some (x + y)) none)) := fun H0 s Q k =>
  h1 H0 s _ fun v H1 s1 d1 => ⟨.int x, e1, .int y, e2, x, y, rfl, rfl, x + y, rfl, w_slX d1 fun v' H2 s2 d2 => k _ _ (s1.trans s2) d2⟩
end
def sp__law_right (K : PySem.W.Frag) : Sp := fun vs H Q _ => ∃ (p : Addr), vs = [.ref p] ∧ H p = some (poolO p) ∧ Tabs (tabs K) H ∧ ∀ H', ExtN H H' → Tabs (tabs K) H' → Q (.bl true) H'
def sp__law_created_right (K : PySem.W.Frag) : Sp := fun vs H Q _ => vs = [] ∧ ∀ H', Same H H' → Q (.bl true) H'
def sp__law_read_errors (K : PySem.W.Frag) : Sp := fun vs H Q _ => ∃ (l : Addr) (xs : List V) (qs : List (ExE × PyData)), vs = [.ref l] ∧ SqL K H l xs ∧ ErrL K H xs qs ∧ qs.length ≤ 100 ∧ (qs.flatMap xRow).length ≤ 1000 ∧ ((qs.flatMap xRow).map (·.length)).sum + (qs.flatMap xRow).length * 1 ≤ 16777216 ∧ ∀ H', Same H H' → Q (.str (errT qs)) H'
abbrev errsN1 : List (ExE × PyData) := errsA.take 4
def sp__law_created_by_name (K : PySem.W.Frag) : Sp := fun vs H Q _ => vs = [] ∧ ∀ l xs H', Same H H' → H' l = some (.lst xs) → ErrL K H' xs ((errsA ++ errsB) ++ errsC) → Q (.ref l) H'
def bag13 : Bag := (signs1 "abcdefghijklm").map fun y => ((y, 1) : Str × Int)
def thirteen : List PyData := bag13.map pairD
theorem thirteen_sm : SmT 13 thirteen := ⟨fun d hd => List.all_eq_true.mp (show thirteen.all smallE = true by decide +kernel) d hd, by decide +kernel⟩
theorem nil_ok : verOk (badF 12) (.tuple []) = true := by decide +kernel
def sp_law (K : PySem.W.Frag) : Sp := fun vs H Q _ => ∃ (a : Addr) (ns : List Int), vs = [.ref a] ∧ SqL K H a (ns.map V.int) ∧ ns.length ≤ 63 ∧ Tabs (tabs K) H ∧ ∀ H', Q (.bl true) H'
theorem ok_is_whole {P : Program} {w : World} {K : PySem.W.Frag} {mg : Str → Option Value} {base : Heap} (fr : Fre mg) (D : Dfd K mg "is_whole" s_is_whole) : Has P w K mg base CX0 1 "is_whole" s_is_whole ["thing"] (sp_is_whole K) := by
  refine D.has sc_is_whole (fun vs H Q E h => ?_) (fun cdv A outer s H vs Q E hr hg h => ?_)
  · obtain ⟨v, d, rfl, _⟩ := h; rfl
  · obtain ⟨v, d, rfl, hd, k⟩ := h
    have nd := sc_is_whole.nd
    refine ⟨_, PSs.nox (pss_one (ps_ret (pe_and (pe_callB (k_isi K) rfl fr.isinstance_ (by decide +kernel) (pa_cons (pv 0) (pa_cons (pe_bltn (v := .ty "int") rfl fr.int_ boot_int rfl) pa_nil))) (pe_one (pe_not (pe_callB (k_isi K) rfl fr.isinstance_ (by decide +kernel) (pa_cons (pv 0) (pa_cons (pe_bltn (v := .ty "bool") rfl fr.bool_ boot_bool rfl) pa_nil)))))))), ?_⟩
    try dsimp only [cxOf]
    tm_at "wp"
    refine w_isiX hd (isi_int d) ?_
    cases d
    all_goals first
      | (refine w_bl (w_iteF ?_); tm_at "wp"; exact k)
      | (refine w_bl (w_iteT ?_); tm_at "wp"; refine w_isiX hd (isi_bool _) ?_; tm_at "wp"; exact k)
theorem ok_is_from {P : Program} {w : World} {K : PySem.W.Frag} {mg : Str → Option Value} {base : Heap} (fr : Fre mg) (D : Dfd K mg "is_from" s_is_from)
    (h_is_whole : Has P w K mg base CX0 1 "is_whole" s_is_whole ["thing"] (sp_is_whole K)) : Has P w K mg base CX0 2 "is_from" s_is_from ["thing", "least"] (sp_is_from K) := by
  refine D.has sc_is_from (fun vs H Q E h => ?_) (fun cdv A outer s H vs Q E hr hg h => ?_)
  · obtain ⟨v, d, j, rfl, _⟩ := h; rfl
  · obtain ⟨v, d, j, rfl, hd, k⟩ := h
    have nd := sc_is_from.nd
    refine ⟨_, PSs.nox (pss_one (ps_ret (pe_and (pe_fn h_is_whole pb_is_whole (hr.mono (by decide)) hg rfl pass0 (pa_cons (pv 0) pa_nil)) (pe_one (pe_cmpR op_ge (pv 0) (pv 1) (nomark _)))))), ?_⟩
    try dsimp only [cxOf]
    tm_at "wp"
    refine ⟨v, d, rfl, hd, ?_⟩
    cases d
    case int i =>
      cases dx_int_inv hd
      refine w_bl (w_iteT ?_)
      tm_at "wp"
      exact k
    all_goals (refine w_bl (w_iteF ?_); tm_at "wp"; exact k)
theorem ok_is_name {P : Program} {w : World} {K : PySem.W.Frag} {mg : Str → Option Value} {base : Heap} (fr : Fre mg) (c_LETTERS : ∃ t, mg "LETTERS" = some (.str "abcdefghijklmnopqrstuvwxyz" t)) (D : Dfd K mg "is_name" s_is_name) : Has P w K mg base CX0 1 "is_name" s_is_name ["thing"] (sp_is_name K) := by
  refine D.has sc_is_name (fun vs H Q E h => ?_) (fun cdv A outer s H vs Q E hr hg h => ?_)
  · obtain ⟨v, d, rfl, _⟩ := h; rfl
  · obtain ⟨v, d, rfl, hd, hz, k⟩ := h
    obtain ⟨_, g_LETTERS⟩ := c_LETTERS
    have nd := sc_is_name.nd
    refine ⟨_, PSs.nox (pss_one (ps_ret (pe_and (pe_callB (k_isi K) rfl fr.isinstance_ (by decide +kernel) (pa_cons (pv 0) (pa_cons (pe_bltn (v := .ty "str") rfl fr.str_ boot_str rfl) pa_nil))) (pe_and (pe_chain op_lt op_lt pe_int (pe_callB (k_len K) rfl fr.len_ (by decide +kernel) (pa_cons (pv 0) pa_nil)) pe_int) (pe_one (pe_callB (k_all K rfl) rfl fr.all_ (by decide +kernel) (pa_cons (pe_lc (own := [("letter", 1)]) (g := gName 1) (tt := tYes) rfl nd (pi_str (pv 0)) (blkOk_by (own := [("letter", 1)]) (N := N_is_name) (sc := defScope s_is_name) (by decide +kernel)) (fun _ _ _ _ _ => (pg_name (i := 1) nd rfl (Or.inl rfl))) (fun _ _ _ _ _ => pts_nil) (fun _ _ _ _ _ => (pe_cmpR o_inSign (pv 1) (pe_glob (v := .str "abcdefghijklmnopqrstuvwxyz") rfl g_LETTERS ⟨_, rfl⟩) rfl))) pa_nil))))))), ?_⟩
    try dsimp only [cxOf]
    tm_at "wp"
    refine w_isiX hd (isi_str d) ?_
    cases d
    case str x =>
      cases dx_str_inv hd
      have hx : x.length ≤ 100000 := by simpa [szD] using hz
      have kk : ∀ H' b, Same H H' → b = isName x → Q (.bl b) H' := fun H' b s e => by rw [e]; exact k H' s
      refine w_bl (w_iteT ?_)
      tm_at "wp"
      refine w_lenS (sz_le hx) ?_
      tm_at "wp"
      refine w_ited (fun h1 => ?_) (fun h1 => ?_)
      · tm_at "wp"
        refine w_iteb (fun h2 => ?_) (fun h2 => ?_)
        · tm_at "wp"
          intro D0 hD
          refine lc_map walk_str (n := x.cps.size) (by have : x.length = x.cps.size := rfl; omega) (fun i y => ∃ c, x.cps.toList[i]? = some c ∧ y = .bl (isLet c)) hD (fun _ _ => trivial) ?_ ?_ mono_gname
          · rintro i y H1 H2 hi s ⟨rfl, c, hc, rfl⟩ Qy hq
            refine w_gname ⟨rfl, ?_⟩
            tm_at "wp"
            refine hq _ _ (Same.refl _) ⟨c, by simpa using hc, ?_⟩
            show V.bl (decide (c ∈ letters.cps.toList)) = _
            rw [mem_letters]
          · intro acc H1 s _ hacc hl hf
            have e : acc = (x.cps.toList.map isLet).map V.bl := by
              rw [List.map_map]
              exact acc_map (by simpa using hl) hf
            rw [e] at hacc
            refine w_all (SqL.of hacc) ?_
            refine kk _ _ s ?_
            rw [all_map_id]
            unfold isName
            rw [decide_eq_true (show 0 < x.length by omega), decide_eq_true (show x.length < 9 by have := of_decide_eq_true h2; omega)]
            simp
        · refine kk _ _ (Same.refl _) ?_
          unfold isName
          rw [decide_eq_false (show ¬ x.length < 9 by have := of_decide_eq_false h2; omega)]
          simp
      · refine w_bl (w_iteF ?_)
        refine kk _ _ (Same.refl _) ?_
        unfold isName
        rw [decide_eq_false (show ¬ 0 < x.length by omega)]
        simp
    all_goals (refine w_bl (w_iteF ?_); tm_at "wp"; exact k _ (Same.refl _))
theorem ok_is_run {P : Program} {w : World} {K : PySem.W.Frag} {mg : Str → Option Value} {base : Heap} (fr : Fre mg) (D : Dfd K mg "is_run" s_is_run)
    (h_is_from : Has P w K mg base CX0 2 "is_from" s_is_from ["thing", "least"] (sp_is_from K))
    (h_is_name : Has P w K mg base CX0 1 "is_name" s_is_name ["thing"] (sp_is_name K)) : Has P w K mg base CX0 3 "is_run" s_is_run ["thing"] (sp_is_run K) := by
  refine D.has sc_is_run (fun vs H Q E h => ?_) (fun cdv A outer s H vs Q E hr hg h => ?_)
  · obtain ⟨v, d, rfl, _⟩ := h; rfl
  · obtain ⟨v, d, rfl, hd, hz, k⟩ := h
    have nd := sc_is_run.nd
    refine ⟨_, PSs.nox (pss_one (ps_ret (pe_and (pe_callB (k_isi K) rfl fr.isinstance_ (by decide +kernel) (pa_cons (pv 0) (pa_cons (pe_bltn (v := .ty "tuple") rfl fr.tuple_ boot_tuple rfl) pa_nil))) (pe_and (pe_cmpR op_eq (pe_callB (k_len K) rfl fr.len_ (by decide +kernel) (pa_cons (pv 0) pa_nil)) pe_int (nomark _)) (pe_and (pe_fn h_is_name pb_is_name (hr.mono (by decide)) hg rfl pass0 (pa_cons (pe_ix (k_ixT K) (pv 0) pe_int (fun _ _ => rfl)) pa_nil)) (pe_one (pe_fn h_is_from pb_is_from (hr.mono (by decide)) hg rfl pass0 (pa_cons (pe_ix (k_ixT K) (pv 0) pe_int (fun _ _ => rfl)) (pa_cons pe_int pa_nil))))))))), ?_⟩
    try dsimp only [cxOf]
    tm_at "wp"
    refine w_isiX hd (isi_tup d) ?_
    cases d
    case tuple ds =>
      obtain ⟨a, xs, rfl, hs, hx⟩ := dx_tup_inv hd
      have hl := dxs_len hx
      refine w_bl (w_iteT ?_)
      tm_at "wp"
      refine w_lenT hs ?_
      tm_at "wp"
      refine w_ited (fun h1 => ?_) (fun h1 => ?_)
      · obtain ⟨d0, d1, rfl⟩ : ∃ d0 d1, ds = [d0, d1] := by
          match ds, (by omega : ds.length = 2) with
          | [d0, d1], _ => exact ⟨d0, d1, rfl⟩
        cases hx with
        | @cons v0 _ _ _ r0 hx =>
        cases hx with
        | @cons v1 _ _ _ r1 hx =>
        cases hx
        have z0 : szD d0 = true := szDs_get (ds := [d0, d1]) (i := 0) (by simpa [szD] using hz) rfl
        tm_at "wp"
        refine w_ixT hs (v := v0) rfl ?_
        tm_at "wp"
        refine ⟨v0, d0, rfl, r0, z0, fun H1 s1 => ?_⟩
        refine w_bl (w_iteb (fun h3 => ?_) (fun h3 => ?_))
        · tm_at "wp"
          refine w_ixT (sqt_same s1 hs) (v := v1) rfl ?_
          tm_at "wp"
          refine ⟨v1, d1, 1, rfl, dx_same s1 r1, ?_⟩
          have e : runD (.tuple [d0, d1]) = fromD d1 1 := by show (nameD d0 && fromD d1 1) = _; rw [h3]; rfl
          rw [e] at k
          exact k _ s1
        · have e : runD (.tuple [d0, d1]) = false := by show (nameD d0 && fromD d1 1) = _; rw [h3]; rfl
          rw [e] at k
          exact k _ s1
      · have e : runD (.tuple ds) = false := by
          unfold runD
          split
          · exfalso; rename_i heq; injection heq with heq; subst heq; exact h1 (by rw [hl]; rfl)
          · rfl
        rw [e] at k
        tm_at "wp"
        exact k _ (Same.refl _)
    all_goals (refine w_bl (w_iteF ?_); tm_at "wp"; exact k _ (Same.refl _))
theorem ok_first_invalid {P : Program} {w : World} {K : PySem.W.Frag} {mg : Str → Option Value} {base : Heap} (fr : Fre mg) (D : Dfd K mg "first_invalid" s_first_invalid)
    (h_is_run : Has P w K mg base CX0 3 "is_run" s_is_run ["thing"] (sp_is_run K)) : Has P w K mg base CX0 4 "first_invalid" s_first_invalid ["thing", "most"] (sp_first_invalid K) := by
  refine D.has sc_first_invalid (fun vs H Q E h => ?_) (fun cdv A outer s H vs Q E hr hg h => ?_)
  · obtain ⟨v, ds, m, rfl, _⟩ := h; rfl
  · obtain ⟨v, ds, m, rfl, hd, hz, k⟩ := h
    have nd := sc_first_invalid.nd
    refine ⟨_, PSs.nox (pss_cons (ps_for PassesOwn.never rfl (k_iEnumT K rfl fr.enumerate_ (pa_cons (pv 0) pa_nil)) (k_gtup K (n := 2) rfl (pgs_cons (pg_name (i := 2) nd rfl (Or.inl rfl)) (pgs_cons (pg_name (i := 3) nd rfl (Or.inl rfl)) pgs_nil)))
        (pss_one (ps_if (PW.pt (pw_or (pt_cmpR op_ge (pv 2) (pv 1) (nomark _)) (pw_or (pt_not (pt_val (pe_fn h_is_run pb_is_run (hr.mono (by decide)) hg rfl pass0 (pa_cons (pv 3) pa_nil)))) (pw_or1 (PW.pt (pw_and (pt_cmpR op_gt (pv 2) pe_int (nomark _)) (pw_and1 (pt_cmpR o_leS (pe_ix (k_ixT K) (pv 3) pe_int (fun _ _ => rfl)) (pe_ix (k_ixT K) (pe_ix (k_ixT K) (pv 0) (pe_op op_sub (pv 2) pe_int) (fun _ _ => rfl)) pe_int (fun _ _ => rfl)) (nomark _))))))))) (pss_one (ps_ret (pv 2))) pss_nil)))
      (pss_one (ps_ret pe_non))), ?_⟩
    try dsimp only [cxOf]
    obtain ⟨a, xs, rfl, hs, hx⟩ := dx_tup_inv hd
    have hl := dxs_len hx
    tm_at "wp"
    refine w_onE hs ?_
    refine for_go (walk_enumT (xs := xs)) (fun i σ H' => ∃ u w, σ = [some (.ref a), some (.int m), u, w] ∧ Same H H' ∧ ∀ j, j < i → badAt ds m j = false) ⟨none, none, rfl, Same.refl _, fun j h => by omega⟩ (fun i σ H' _ ⟨_, _, _, s, _⟩ => sqt_same s hs) ?_ ?_
    · rintro i v σ H1 H2 hi ⟨u, w, rfl, s1, hp⟩ ⟨T, y, x, rfl, hT, rfl, ey, ex⟩
      cases (Option.some.inj ey)
      obtain ⟨d, e1, e2⟩ := dxs_get hx ex
      have hgd := getD_of e1
      have s2 : Same H (upd H1 T (.tup [.int (i : Nat), x])) := same_step s1 hT
      refine w_gtup (SqT.of upd_same) rfl ?_
      tm_at "wp"
      have hbad : ∀ c, badAt ds m i = c → c = (decide (m ≤ (i : Int)) || (!runD d || (decide (0 < i) && !decide (ltS (nmD (ds.getD (i - 1) .none)) (nmD d))))) := fun c e => by rw [← e]; unfold badAt; rw [hgd]
      have ret : badAt ds m i = true → ∀ H', Same H H' → Q (.int (i : Nat)) H' := fun hb H' s' => by
        have e := firstBad_some (by omega) hb hp
        rw [e] at k
        exact k H' s'
      have nxt : badAt ds m i = false → ∀ j, j < i + 1 → badAt ds m j = false := fun hb j hj => by
        by_cases e : j = i
        · rw [e]; exact hb
        · exact hp j (by omega)
      refine w_ited (fun h1 => ?_) (fun h1 => ?_)
      · tm_at "wp"
        refine ret ?_ _ s2
        unfold badAt
        rw [decide_eq_true h1]; rfl
      · tm_at "wp"
        refine ⟨x, d, rfl, dx_same s2 e2, szDs_get hz e1, fun H3 s3 => ?_⟩
        have s4 := s2.trans s3
        refine w_bl ?_
        refine w_itenb (fun h2 => ?_) (fun h2 => ?_)
        · tm_at "wp"
          refine ret ?_ _ s4
          unfold badAt
          rw [hgd, h2]; simp
        · tm_at "wp"
          obtain ⟨b, nx, wx, rfl, hb, en⟩ := run_inv e2 h2
          refine w_ited (fun h3 => ?_) (fun h3 => ?_)
          · tm_at "wp"
            refine w_ixT (sqt_same s4 hb) (v := .str nx) rfl ?_
            tm_at "wp"
            have hi0 : i - 1 < ds.length := by omega
            have g0 : badAt ds m (i - 1) = false := hp (i - 1) (by omega)
            obtain ⟨v1, q1, q2⟩ := dxs_get' hx (List.getElem?_eq_getElem hi0)
            have r1 : runD ds[i - 1] = true := by
              unfold badAt at g0
              rw [getD_of (List.getElem?_eq_getElem hi0)] at g0
              cases z : runD ds[i - 1]
              · rw [z] at g0; simp at g0
              · rfl
            obtain ⟨b1, nx1, wx1, rfl, hb1, en1⟩ := run_inv q2 r1
            refine w_ixT (sqt_same s4 hs) (v := .ref b1) ?_ ?_
            · have e : ((i : Nat) : Int) - 1 = ((i - 1 : Nat) : Int) := by omega
              rw [e]; exact atI_nat q1
            tm_at "wp"
            refine w_ixT (sqt_same s4 hb1) (v := .str nx1) rfl ?_
            tm_at "wp"
            have key : badAt ds m i = !decide (ltS nx1 nx) := by
              unfold badAt
              rw [hgd, getD_of (List.getElem?_eq_getElem hi0), h2, en, en1, decide_eq_false h1, decide_eq_true (show 0 < i by omega)]
              simp
            refine w_iten (fun h4 => ?_) (fun h4 => ?_)
            · tm_at "wp"
              refine ret ?_ _ s4
              rw [key, decide_eq_false (show ¬ ltS nx1 nx from h4)]; rfl
            · tm_at "wp"
              refine ⟨_, _, rfl, s4, nxt ?_⟩
              rw [key, decide_eq_true (show ltS nx1 nx from h4)]; rfl
          · tm_at "wp"
            refine ⟨_, _, rfl, s4, nxt ?_⟩
            unfold badAt
            rw [hgd, h2, decide_eq_false h1, decide_eq_false (show ¬ 0 < i by omega)]; rfl
    · rintro σ H1 ⟨u, w, rfl, s1, hp⟩
      tm_at "wp"
      have e := firstBad_none (ds := ds) (m := m) fun j hj => hp j (by omega)
      rw [e] at k
      exact k _ s1
theorem ok_is_counts {P : Program} {w : World} {K : PySem.W.Frag} {mg : Str → Option Value} {base : Heap} (fr : Fre mg) (c_MAX_NAMES : ∃ t, mg "MAX_NAMES" = some (.int 12 t)) (D : Dfd K mg "is_counts" s_is_counts)
    (h_first_invalid : Has P w K mg base CX0 4 "first_invalid" s_first_invalid ["thing", "most"] (sp_first_invalid K)) : Has P w K mg base CX0 5 "is_counts" s_is_counts ["thing"] (sp_is_counts K) := by
  refine D.has sc_is_counts (fun vs H Q E h => ?_) (fun cdv A outer s H vs Q E hr hg h => ?_)
  · obtain ⟨v, d, rfl, _⟩ := h; rfl
  · obtain ⟨v, d, rfl, hd, hz, k⟩ := h
    obtain ⟨_, g_MAX_NAMES⟩ := c_MAX_NAMES
    have nd := sc_is_counts.nd
    refine ⟨_, PSs.nox (pss_one (ps_ret (pe_and (pe_callB (k_isi K) rfl fr.isinstance_ (by decide +kernel) (pa_cons (pv 0) (pa_cons (pe_bltn (v := .ty "tuple") rfl fr.tuple_ boot_tuple rfl) pa_nil))) (pe_one (pe_cmpR o_isN (pe_fn h_first_invalid pb_first_invalid (hr.mono (by decide)) hg rfl pass0 (pa_cons (pv 0) (pa_cons (pe_glob (v := .int 12) rfl g_MAX_NAMES ⟨_, rfl⟩) pa_nil))) pe_non (nomark _)))))), ?_⟩
    try dsimp only [cxOf]
    tm_at "wp"
    refine w_isiX hd (isi_tup d) ?_
    cases d
    case tuple ds =>
      refine w_bl (w_iteT ?_)
      tm_at "wp"
      refine ⟨v, ds, 12, rfl, hd, by simpa [szD] using hz, fun H1 s1 => ?_⟩
      cases e : firstBad ds 12 with
      | none =>
        refine w_isNN ?_
        have q : Q (.bl (firstBad ds 12).isNone) H1 := k _ s1
        rw [e] at q
        exact q
      | some i =>
        refine w_isNI ?_
        have q : Q (.bl (firstBad ds 12).isNone) H1 := k _ s1
        rw [e] at q
        exact q
    all_goals (refine w_bl (w_iteF ?_); tm_at "wp"; exact k _ (Same.refl _))
theorem ok_check_counts {P : Program} {w : World} {K : PySem.W.Frag} {mg : Str → Option Value} {base : Heap} (fr : Fre mg) (c_MAX_NAMES : ∃ t, mg "MAX_NAMES" = some (.int 12 t)) (x_InvalidCounts : HasX P w K mg base "InvalidCounts" "index") (D : Dfd K mg "check_counts" s_check_counts)
    (h_first_invalid : Has P w K mg base CX0 4 "first_invalid" s_first_invalid ["thing", "most"] (sp_first_invalid K)) : Has P w K mg base (L2.CX P w) 5 "check_counts" s_check_counts ["thing"] (sp_check_counts K) := by
  refine D.has sc_check_counts (fun vs H Q E h => ?_) (fun cdv A outer s H vs Q E hr hg h => ?_)
  · obtain ⟨v, d, rfl, _⟩ := h; rfl
  · obtain ⟨v, d, rfl, hd, hz, k, kE⟩ := h
    obtain ⟨_, g_MAX_NAMES⟩ := c_MAX_NAMES
    have nd := sc_check_counts.nd
    refine ⟨_, (pss_cons (ps_if (pt_not (pt_val (pe_callB (k_isi K) rfl fr.isinstance_ (by decide +kernel) (pa_cons (pv 0) (pa_cons (pe_bltn (v := .ty "tuple") rfl fr.tuple_ boot_tuple rfl) pa_nil))))) (pss_one (ps_rai K x_InvalidCounts rfl takesE (hr.mono (by decide)) rfl pe_non)) pss_nil)
      (pss_cons (ps_set (i := 1) nd rfl (Or.inl rfl) (pe_fn h_first_invalid pb_first_invalid (hr.mono (by decide)) hg rfl pass0 (pa_cons (pv 0) (pa_cons (pe_glob (v := .int 12) rfl g_MAX_NAMES ⟨_, rfl⟩) pa_nil))))
      (pss_one (ps_if (pt_cmpR o_notN (pv 1) pe_non (nomark _)) (pss_one (ps_rai K x_InvalidCounts rfl takesE (hr.mono (by decide)) rfl (pv 1))) pss_nil)))), ?_⟩
    try dsimp only [cxOf]
    tm_at "wp"
    refine w_isiX hd (isi_tup d) ?_
    cases d
    case tuple ds =>
      refine w_bl ?_
      rw [show (!isTupD (.tuple ds)) = false from rfl, if_neg (by decide)]
      tm_at "wp"
      refine ⟨v, ds, 12, rfl, hd, by simpa [szD] using hz, fun H1 s1 => ?_⟩
      cases e : firstBad ds 12 with
      | none =>
        tm_at "wp"
        rw [show optV none = V.non from rfl, decide_eq_true rfl, if_neg (by decide)]
        tm_at "wp"
        exact k (by show (firstBad ds 12).isNone = true; rw [e]; rfl) _ s1
      | some i =>
        tm_at "wp"
        rw [decide_eq_false (show optV (some i) ≠ V.non from nofun), if_pos (by rfl)]
        refine w_rai ?_
        tm_at "wp"
        refine w_raic fun dx hdx => kE (by show (firstBad ds 12).isNone = false; rw [e]; rfl) dx _ (same_step s1 hdx) ?_
        rw [upd_same, show verV (badF 12) (.tuple ds) = optV (firstBad ds 12) from rfl, e]
    all_goals
      refine w_bl ?_
      rw [if_pos (by rfl)]
      refine w_rai ?_
      tm_at "wp"
      exact w_raic fun dx hdx => kE rfl dx _ (same_new hdx) upd_same
theorem ok_check_name {P : Program} {w : World} {K : PySem.W.Frag} {mg : Str → Option Value} {base : Heap} (fr : Fre mg) (x_InvalidName : HasX P w K mg base "InvalidName" "name") (D : Dfd K mg "check_name" s_check_name)
    (h_is_name : Has P w K mg base CX0 1 "is_name" s_is_name ["thing"] (sp_is_name K)) : Has P w K mg base (L2.CX P w) 4 "check_name" s_check_name ["thing"] (sp_check_name K) := by
  refine D.has sc_check_name (fun vs H Q E h => ?_) (fun cdv A outer s H vs Q E hr hg h => ?_)
  · obtain ⟨v, d, rfl, _⟩ := h; rfl
  · obtain ⟨v, d, rfl, hd, hz, k, kE⟩ := h
    have nd := sc_check_name.nd
    refine ⟨_, (pss_one (ps_if (pt_not (pt_val (pe_fn h_is_name pb_is_name (hr.mono (by decide)) hg rfl pass0 (pa_cons (pv 0) pa_nil)))) (pss_one (ps_rai K x_InvalidName rfl takesE (hr.mono (by decide)) rfl (pv 0))) pss_nil)), ?_⟩
    try dsimp only [cxOf]
    tm_at "wp"
    refine ⟨v, d, rfl, hd, hz, fun H1 s1 => ?_⟩
    refine w_bl ?_
    cases hb : nameD d with
    | true =>
      rw [if_neg (by decide)]
      tm_at "wp"
      exact k hb _ s1
    | false =>
      rw [if_pos (by rfl)]
      refine w_rai ?_
      tm_at "wp"
      exact w_raic fun dx hdx => kE hb dx _ (same_step s1 hdx) upd_same
theorem ok_sum_of {P : Program} {w : World} {K : PySem.W.Frag} {mg : Str → Option Value} {base : Heap} (fr : Fre mg) (D : Dfd K mg "sum_of" s_sum_of) : Has P w K mg base CX0 1 "sum_of" s_sum_of ["pairs"] (sp_sum_of K) := by
  refine D.has sc_sum_of (fun vs H Q E h => ?_) (fun cdv A outer s H vs Q E hr hg h => ?_)
  · obtain ⟨v, ps, rfl, _⟩ := h; rfl
  · obtain ⟨v, ps, rfl, hd, hn, k⟩ := h
    have nd := sc_sum_of.nd
    refine ⟨_, PSs.nox (pss_one (ps_ret (pe_callB (k_sum K rfl) rfl fr.sum_ (by decide +kernel) (pa_cons (pe_lc (own := [("name", 1), ("count", 2)]) (g := gTup K 2 (gCons (gName 1) (gCons (gName 2) gNil))) (tt := tYes) rfl nd (k_iTup K (pv 0)) (blkOk_by (own := [("name", 1), ("count", 2)]) (N := N_sum_of) (sc := defScope s_sum_of) (by decide +kernel)) (fun _ _ _ _ _ => (k_gtup K (n := 2) rfl (pgs_cons (pg_name (i := 1) nd rfl (Or.inl rfl)) (pgs_cons (pg_name (i := 2) nd rfl (Or.inl rfl)) pgs_nil)))) (fun _ _ _ _ _ => pts_nil) (fun _ _ _ _ _ => (pv 2))) pa_nil)))), ?_⟩
    try dsimp only [cxOf]
    obtain ⟨a, xs, rfl, hs, hx, hl⟩ := bag_inv hd
    tm_at "wp"
    refine w_onT hs ?_
    intro D0 hD
    refine lc_map walk_tup (n := xs.length) (by omega) (fun i y => ∃ p, ps[i]? = some p ∧ y = .int p.2) hD (fun _ s => sqt_same s hs) ?_ ?_ mono_gpair
    · rintro i y H1 H2 hi s ⟨rfl, hy⟩ Qy hq
      obtain ⟨p, b, e1, rfl, hb⟩ := bag_get hx hy
      refine w_gtup (sqt_same s hb) rfl ?_
      tm_at "wp"
      refine ⟨rfl, ?_⟩
      tm_at "wp"
      exact hq _ _ (Same.refl _) ⟨p, e1, rfl⟩
    · intro acc H1 s _ hacc hl2 hf
      have e : acc = (ps.map (·.2)).map V.int := by
        rw [List.map_map]
        exact acc_map (by omega) hf
      rw [e] at hacc
      refine w_sum (SqL.of hacc) ?_
      exact k _ s
theorem ok_table_of {P : Program} {w : World} {K : PySem.W.Frag} {mg : Str → Option Value} {base : Heap} (fr : Fre mg) (D : Dfd K mg "table_of" s_table_of) : Has P w K mg base CX0 1 "table_of" s_table_of ["pairs"] (sp_table_of K) := by
  refine D.has sc_table_of (fun vs H Q E h => ?_) (fun cdv A outer s H vs Q E hr hg h => ?_)
  · obtain ⟨v, ps, rfl, _⟩ := h; rfl
  · obtain ⟨v, ps, rfl, hd, hn, k⟩ := h
    have nd := sc_table_of.nd
    refine ⟨_, PSs.nox (pss_cons (ps_set (i := 1) nd rfl (Or.inl rfl) pe_dnewK)
      (pss_cons (ps_for PassesOwn.never rfl (k_iTup K (pv 0)) (k_gtup K (n := 2) rfl (pgs_cons (pg_name (i := 2) nd rfl (Or.inl rfl)) (pgs_cons (pg_name (i := 3) nd rfl (Or.inl rfl)) pgs_nil)))
        (pss_one (ps_dput (hu_of hr) (pv 1) (pv 2) (pe_op op_add (pe_dget2 (hu_of hr) (pv 1) (pv 2) pe_int ⟨rfl, rfl, rfl, rfl⟩) (pv 3)) rfl)))
      (pss_one (ps_ret (pv 1))))), ?_⟩
    try dsimp only [cxOf]
    obtain ⟨a, xs, rfl, hs, hx, hl⟩ := bag_inv hd
    tm_at "wp"
    rename_i d hd0
    refine w_onT (sqt_same (same_new hd0) hs) ?_
    refine for_go (walk_tup (xs := xs)) (fun i σ H' => ∃ u w, σ = [some (.ref a), some (.ref d), u, w] ∧ Same H H' ∧ H' d = some (.dK (kvOf (tabOf (ps.take i))))) ⟨none, none, rfl, same_new hd0, upd_same⟩ (fun i σ H' _ ⟨_, _, _, s, _⟩ => sqt_same s hs) ?_ ?_
    · rintro i v σ H1 H2 hi ⟨u, w, rfl, s1, hd1⟩ ⟨rfl, hy⟩
      obtain ⟨p, b, e1, rfl, hb⟩ := bag_get hx hy
      have hlen : (tabOf (ps.take i)).length ≤ 100000 := by have := tabOf_len (ps.take i); rw [List.length_take] at this; omega
      refine w_gtup (sqt_same s1 hb) rfl ?_
      tm_at "wp"
      refine w_isD hd1 ?_
      tm_at "wp"
      refine w_dgetk hd1 ?_
      rw [kv_get]
      tm_at "wp"
      refine w_dputk hd1 (by rw [kv_len]; exact Nat.lt_of_le_of_lt hlen (by decide)) ?_
      tm_at "wp"
      refine ⟨_, _, rfl, same_mut s1 hd0, ?_⟩
      rw [kv_put, upd_same, take_succ_snoc e1, tabOf_snoc]
      rfl
    · rintro σ H1 ⟨u, w, rfl, s1, hd1⟩
      tm_at "wp"
      refine k d _ hd0 s1 ?_
      rw [hd1, List.take_of_length_le (by omega)]
theorem ok_counts_of_table {P : Program} {w : World} {K : PySem.W.Frag} {mg : Str → Option Value} {base : Heap} (fr : Fre mg) (D : Dfd K mg "counts_of_table" s_counts_of_table) : Has P w K mg base CX0 1 "counts_of_table" s_counts_of_table ["table"] (sp_counts_of_table K) := by
  refine D.has sc_counts_of_table (fun vs H Q E h => ?_) (fun cdv A outer s H vs Q E hr hg h => ?_)
  · obtain ⟨a, t, rfl, _⟩ := h; rfl
  · obtain ⟨a, t, rfl, ha, hn, hl, k⟩ := h
    have nd := sc_counts_of_table.nd
    refine ⟨_, PSs.nox (pss_one (ps_ret (pe_callTy (k_tuple K) rfl fr.tuple_ (by decide +kernel) (pa_cons (pe_lc (own := [("name", 1)]) (g := gName 1) rfl nd (k_iList K (pe_callB (c_sortedDk rfl) rfl fr.sorted_ (by decide +kernel) (pa_cons (pv 0) pa_nil))) (blkOk_by (own := [("name", 1)]) (N := N_counts_of_table) (sc := defScope s_counts_of_table) (by decide +kernel)) (fun _ _ _ _ _ => (pg_name (i := 1) nd rfl (Or.inl rfl))) (fun _ _ _ _ _ => (pts_one (pt_cmpR op_gt (pe_dget (hu_of hr) (pv 0) (pv 1) (fun _ _ => rfl)) pe_int (nomark _)))) (fun _ _ _ _ _ => (pe_tup (pa_cons (pv 1) (pa_cons (pe_dget (hu_of hr) (pv 0) (pv 1) (fun _ _ => rfl)) pa_nil))))) pa_nil)))), ?_⟩
    try dsimp only [cxOf]
    tm_at "wp"
    refine w_sortedDk ha hl ?_
    intro ys q hperm hsorted hq
    have asc := sorted_asc hsorted (hperm.nodup_iff.mpr hn)
    have hlen : ys.length = t.length := by rw [hperm.length_eq, List.length_map]
    refine w_onL (SqL.of upd_same) ?_
    intro D0 hD
    refine lc_fmd K (walk_list (xs := ys.map V.str)) ys (fun y => if 0 < getT t y then some (pairD (y, getT t y)) else none) (by rw [List.length_map]) (by rw [List.length_map]; omega) (fun y d e => ?_) hD (fun _ s => s.seq (SqL.of upd_same)) ?_ ?_
    · by_cases z : 0 < getT t y
      · rw [if_pos z] at e; cases e; rfl
      · rw [if_neg z] at e; cases e
    · rintro i y n H1 H2 hi s ⟨rfl, hy⟩ Qy Qn hq1 hq2
      have ey : y = .str n := by rw [List.getElem?_map, hi] at hy; exact (Option.some.inj hy).symm
      subst ey
      have hin : n ∈ t.map (·.1) := hperm.mem_iff.mp (List.mem_of_getElem? hi)
      have ha1 : H2 a = some (.dK (kvOf t)) := s _ _ (hp_new ha hq)
      refine w_gname ⟨rfl, ?_⟩
      tm_at "wp"
      refine w_dgetc ha1 (kv_some hin) ?_
      tm_at "wp"
      refine w_ited (fun h => ?_) (fun h => ?_)
      · tm_at "wp"
        refine w_dgetc ha1 (kv_some hin) ?_
        tm_at "wp"
        rename_i T hT
        exact hq1 _ _ _ (same_new hT) (if_pos h) (pair_mk (SqT.of upd_same))
      · tm_at "wp"
        exact hq2 _ (Same.refl _) (if_neg h)
    · intro acc H1 s1 _ hacc hdp
      have e : (ys.filterMap fun y => if 0 < getT t y then some (pairD (y, getT t y)) else none) = (canF (getT t) ys).map pairD := by
        unfold canF
        rw [List.map_filterMap]
        congr 1
        funext y
        by_cases z : 0 < getT t y
        · rw [if_pos z, if_pos z]; rfl
        · rw [if_neg z, if_neg z]; rfl
      rw [e] at hdp
      tm_at "wp"
      refine w_tupL (SqL.of hacc) ?_
      intro T hT
      refine k (.ref T) _ _ (((same_new hq).trans s1).trans (same_new hT)) (.tup (SqT.of upd_same) (dps_same (same_new hT) hdp)) (canF_can hperm asc) (by have := canF_len (getT t) ys; omega) fun p hp => hperm.mem_iff.mp (canF_mem hp).1
theorem ok_total {P : Program} {w : World} {K : PySem.W.Frag} {mg : Str → Option Value} {base : Heap} (fr : Fre mg) (D : Dfd K mg "total" s_total)
    (h_check_counts : Has P w K mg base (L2.CX P w) 5 "check_counts" s_check_counts ["thing"] (sp_check_counts K))
    (h_sum_of : Has P w K mg base CX0 1 "sum_of" s_sum_of ["pairs"] (sp_sum_of K)) : Has P w K mg base (L2.CX P w) 6 "total" s_total ["counts"] (sp_total K) := by
  refine D.has sc_total (fun vs H Q E h => ?_) (fun cdv A outer s H vs Q E hr hg h => ?_)
  · obtain ⟨v, d, rfl, _⟩ := h; rfl
  · obtain ⟨v, d, rfl, hd, hz, k, kE⟩ := h
    have nd := sc_total.nd
    refine ⟨_, (pss_cons (ps_expr (pe_fn h_check_counts pb_check_counts (hr.mono (by decide)) hg rfl (passE takesE) (pa_cons (pv 0) pa_nil)))
      (pss_one (ps_ret (pe_fn h_sum_of pb_sum_of (hr.mono (by decide)) hg rfl pass0 (pa_cons (pv 0) pa_nil))))), ?_⟩
    try dsimp only [cxOf]
    tm_at "wp"
    refine ⟨v, d, rfl, hd, hz, fun ho H1 s1 => ?_, kE⟩
    tm_at "wp"
    obtain ⟨ps, rfl, hB, hl⟩ := ver12 ho
    exact ⟨v, ps, rfl, dx_bag (dx_same s1 hd), by omega, fun H2 s2 => k ho _ _ (s1.trans s2)⟩
theorem ok_count_of {P : Program} {w : World} {K : PySem.W.Frag} {mg : Str → Option Value} {base : Heap} (fr : Fre mg) (D : Dfd K mg "count_of" s_count_of)
    (h_check_counts : Has P w K mg base (L2.CX P w) 5 "check_counts" s_check_counts ["thing"] (sp_check_counts K))
    (h_check_name : Has P w K mg base (L2.CX P w) 4 "check_name" s_check_name ["thing"] (sp_check_name K))
    (h_table_of : Has P w K mg base CX0 1 "table_of" s_table_of ["pairs"] (sp_table_of K)) : Has P w K mg base (L2.CX P w) 6 "count_of" s_count_of ["counts", "name"] (sp_count_of K) := by
  refine D.has sc_count_of (fun vs H Q E h => ?_) (fun cdv A outer s H vs Q E hr hg h => ?_)
  · obtain ⟨v, nv, d, dn, rfl, _⟩ := h; rfl
  · obtain ⟨v, nv, d, dn, rfl, hd, hz, hdn, hzn, k, kN, kE⟩ := h
    have nd := sc_count_of.nd
    refine ⟨_, (pss_cons (ps_expr (pe_fn h_check_counts pb_check_counts (hr.mono (by decide)) hg rfl (passE takesE) (pa_cons (pv 0) pa_nil)))
      (pss_cons (ps_expr (pe_fn h_check_name pb_check_name (hr.mono (by decide)) hg rfl (passE takesE) (pa_cons (pv 1) pa_nil)))
      (pss_one (ps_ret (pe_dget2 (hu_of hr) (pe_fn h_table_of pb_table_of (hr.mono (by decide)) hg rfl pass0 (pa_cons (pv 0) pa_nil)) (pv 1) pe_int ⟨rfl, rfl, rfl, rfl⟩))))), ?_⟩
    try dsimp only [cxOf]
    tm_at "wp"
    refine ⟨v, d, rfl, hd, hz, fun ho H1 s1 => ?_, kE⟩
    tm_at "wp"
    refine ⟨nv, dn, rfl, dx_same s1 hdn, hzn, fun hn H2 s2 => ?_, fun hn dd H' s' hdd => kN ho hn dd H' (s1.trans s') hdd⟩
    obtain ⟨ps, rfl, hB, hl⟩ := ver12 ho
    obtain ⟨x, rfl⟩ : ∃ x, dn = .str x := by
      cases dn <;> first | exact ⟨_, rfl⟩ | cases hn
    cases dx_str_inv hdn
    tm_at "wp"
    refine ⟨v, ps, rfl, dx_bag (dx_same (s1.trans s2) hd), by omega, fun a H3 ha s3 hd3 => ?_⟩
    refine w_isD hd3 ?_
    tm_at "wp"
    refine w_dgetk hd3 ?_
    rw [kv_get, getT_tabOf]
    exact k ho hn _ _ ((s1.trans s2).trans s3)
theorem ok_added {P : Program} {w : World} {K : PySem.W.Frag} {mg : Str → Option Value} {base : Heap} (fr : Fre mg) (c_MAX_NAMES : ∃ t, mg "MAX_NAMES" = some (.int 12 t)) (x_TooManyNames : HasX P w K mg base "TooManyNames" "found") (D : Dfd K mg "added" s_added)
    (h_check_counts : Has P w K mg base (L2.CX P w) 5 "check_counts" s_check_counts ["thing"] (sp_check_counts K))
    (h_counts_of_table : Has P w K mg base CX0 1 "counts_of_table" s_counts_of_table ["table"] (sp_counts_of_table K))
    (h_table_of : Has P w K mg base CX0 1 "table_of" s_table_of ["pairs"] (sp_table_of K)) : Has P w K mg base (L2.CX P w) 6 "added" s_added ["one", "other"] (sp_added K) := by
  refine D.has sc_added (fun vs H Q E h => ?_) (fun cdv A outer s H vs Q E hr hg h => ?_)
  · obtain ⟨v1, v2, d1, d2, rfl, _⟩ := h; rfl
  · obtain ⟨v1, v2, d1, d2, rfl, h1, hz1, h2, hz2, he, k, kB, kA⟩ := h
    obtain ⟨_, g_MAX_NAMES⟩ := c_MAX_NAMES
    have nd := sc_added.nd
    refine ⟨_, (pss_cons (ps_expr (pe_fn h_check_counts pb_check_counts (hr.mono (by decide)) hg rfl (passE takesE) (pa_cons (pv 0) pa_nil)))
      (pss_cons (ps_expr (pe_fn h_check_counts pb_check_counts (hr.mono (by decide)) hg rfl (passE takesE) (pa_cons (pv 1) pa_nil)))
      (pss_cons (ps_set (i := 2) nd rfl (Or.inl rfl) (pe_fn h_counts_of_table pb_counts_of_table (hr.mono (by decide)) hg rfl pass0 (pa_cons (pe_fn h_table_of pb_table_of (hr.mono (by decide)) hg rfl pass0 (pa_cons (pe_op (k_catT K) (pv 0) (pv 1)) pa_nil)) pa_nil)))
      (pss_cons (ps_if (pt_cmpR op_gt (pe_callB (k_len K) rfl fr.len_ (by decide +kernel) (pa_cons (pv 2) pa_nil)) (pe_glob (v := .int 12) rfl g_MAX_NAMES ⟨_, rfl⟩) (nomark _)) (pss_one (ps_rai K x_TooManyNames rfl takesE (hr.mono (by decide)) rfl (pe_callB (k_len K) rfl fr.len_ (by decide +kernel) (pa_cons (pv 2) pa_nil)))) pss_nil)
      (pss_one (ps_ret (pv 2))))))), ?_⟩
    try dsimp only [cxOf]
    tm_at "wp"
    refine ⟨v1, d1, rfl, h1, hz1, fun ho1 H1 s1 => ?_, kA⟩
    tm_at "wp"
    refine ⟨v2, d2, rfl, dx_same s1 h2, hz2, fun ho2 H2 s2 => ?_, fun hb dd H' s' hdd => kB ho1 hb dd H' (s1.trans s') hdd⟩
    obtain ⟨ps, rfl, hB, hl⟩ := ver12 ho1
    have e2 := he ho1 ho2
    subst e2
    have s12 := s1.trans s2
    tm_at "wp"
    refine w_catD (dx_bag (dx_same s12 h1)) (dx_bag (ps := []) (dx_same s12 h2)) (by rw [List.length_map]; show ps.length + 0 ≤ _; omega) fun cv H3 s3 hc => ?_
    replace hc : Dp K H3 cv (bagD ps) := by
      have e : bagD ps = .tuple (ps.map pairD ++ ([] : Bag).map pairD) := by rw [List.map_nil, List.append_nil]; rfl
      rw [e]
      exact hc
    tm_at "wp"
    refine ⟨cv, ps, rfl, hc, by omega, fun d H4 hd0 s4 hd4 => ?_⟩
    have htab : TabOk (tabOf ps) := tab_ok hB.pos
    have htl := tabOf_len ps
    tm_at "wp"
    refine ⟨d, tabOf ps, rfl, hd4, htab.nd, by omega, fun v zs H5 s5 hzd hzc hzl hzm => ?_⟩
    have s05 := ((s12.trans s3).trans s4).trans s5
    obtain ⟨za, zxs, rfl, hzs, hzx, hzxl⟩ := bag_inv hzd
    tm_at "wp"
    refine w_lenT hzs ?_
    tm_at "wp"
    refine w_ited (fun z => ?_) (fun z => ?_)
    · exfalso
      omega
    tm_at "wp"
    exact k ho1 ho2 _ _ s05
theorem ok__law_cell {P : Program} {w : World} {K : PySem.W.Frag} {mg : Str → Option Value} {base : Heap} (fr : Fre mg) (D : Dfd K mg "_law_cell" s__law_cell) : Has P w K mg base CX0 1 "_law_cell" s__law_cell ["_law_script", "_law_k"] (sp__law_cell K) := by
  refine D.has sc__law_cell (fun vs H Q E h => ?_) (fun cdv A outer s H vs Q E hr hg h => ?_)
  · obtain ⟨a, ns, j, rfl, _⟩ := h; rfl
  · obtain ⟨a, ns, j, rfl, hs, hn, h0, h1, k⟩ := h
    have nd := sc__law_cell.nd
    refine ⟨_, PSs.nox (pss_cons (ps_if (pt_cmpR op_lt (pv 1) (pe_callB (k_len K) rfl fr.len_ (by decide +kernel) (pa_cons (pv 0) pa_nil)) (nomark _)) (pss_one (ps_ret (pe_ix (k_ixL K) (pv 0) (pv 1) (fun _ _ => rfl)))) pss_nil)
      (pss_cons (ps_set (i := 2) nd rfl (Or.inl rfl) (pe_op op_mod (pe_op op_mul pe_int (pe_op op_add (pe_op op_add (pe_op op_mul (pv 1) (pv 1)) (pe_op op_mul pe_int (pv 1))) pe_int)) pe_int))
      (pss_cons (ps_for PassesOwn.never rfl (k_iList K (pe_slice (k_slL K) (pv 0) po_none (po_some pe_int))) (pg_name (i := 3) nd rfl (Or.inl rfl))
        (pss_one (ps_set (i := 2) nd rfl (Or.inl rfl) (pe_op op_mod (pe_op op_add (pe_op op_mul (pv 2) pe_int) (pv 3)) pe_int))))
      (pss_one (ps_ret (pv 2)))))), ?_⟩
    try dsimp only [cxOf]
    tm_at "wp"
    refine w_lenL hs ?_
    tm_at "wp"
    refine w_ited (fun h2 => ?_) (fun h2 => ?_)
    · tm_at "wp"
      rw [List.length_map] at h2
      have h3 : j.toNat < ns.length := by omega
      refine w_ixL hs (v := .int ns[j.toNat]) ?_ ?_
      · exact at_of (j := j.toNat) (by omega) (by simp [h3])
      · exact k _ _ (Same.refl _)
    · tm_at "wp"
      refine w_slL hs ?_
      intro p hp
      refine w_onL (SqL.of upd_same) ?_
      have s0 : Same H (upd H p (.lst (cutV (ns.map V.int) none (some 3)))) := same_new hp
      refine for_go (walk_list (xs := cutV (ns.map V.int) none (some 3))) (fun i σ H' => ∃ z u, σ = [some (.ref a), some (.int j), some (.int z), u] ∧ 0 ≤ z ∧ z < 1000000007 ∧ H' = upd H p (.lst (cutV (ns.map V.int) none (some 3)))) ⟨_, none, rfl, Int.emod_nonneg _ (by decide), Int.emod_lt_of_pos _ (by decide), rfl⟩ (fun i σ H' _ ⟨_, _, _, _, _, e⟩ => by rw [e]; exact SqL.of upd_same) ?_ ?_
      · rintro i v σ H1 H2 hi ⟨z, u, rfl, z0, z1, rfl⟩ ⟨rfl, hy⟩
        obtain ⟨m, rfl⟩ : ∃ m, v = .int m := by
          have hm := List.mem_of_getElem? hy
          unfold cutV at hm
          have hm2 := List.mem_of_mem_drop (List.mem_of_mem_take hm)
          obtain ⟨m, _, e⟩ := List.mem_map.mp hm2
          exact ⟨m, e.symm⟩
        tm_at "wp"
        exact ⟨_, _, rfl, Int.emod_nonneg _ (by decide), Int.emod_lt_of_pos _ (by decide), rfl⟩
      · rintro σ H1 ⟨z, u, rfl, z0, z1, rfl⟩
        tm_at "wp"
        exact k _ _ s0
theorem okc__law_pool {P : Program} {w : World} {K : PySem.W.Frag} {mg : Str → Option Value} {base : Heap} (fr : Fre mg) (D : Dfd K mg "_law_pool" s__law_pool) : Has P w K mg base CX0 1 "_law_pool" s__law_pool ["_law_cell_here"] (spc__law_pool K) := by
  refine D.has sc__law_pool (fun vs H Q E h => ?_) (fun cdv A outer s H vs Q E hr hg h => ?_)
  · obtain ⟨n, rfl, _⟩ := h; rfl
  · obtain ⟨n, rfl, k⟩ := h
    have nd := sc__law_pool.nd
    refine ⟨_, PSs.nox (pss_cons (ps_set (i := 1) nd rfl (Or.inl rfl) pe_int)
      (pss_cons (ps_if (PW.pt (pw_or (pt_cmpR op_lt (pv 0) pe_int (nomark _)) (pw_or1 (pt_cmpR op_ge (pv 0) (pe_op op_pow pe_int pe_int) (nomark _))))) (pss_one (ps_set (i := 1) nd rfl (Or.inl rfl) (pe_callB c_abs rfl fr.abs_ (by decide +kernel) (pa_cons (pv 0) pa_nil)))) pss_nil)
      (pss_one (ps_ret (pe_lst (pa_cons (pe_op op_mod (pv 0) pe_int) (pa_cons (pv 1) (pa_cons pe_int pa_nil)))))))), ?_⟩
    try dsimp only [cxOf]
    have fin : ∀ (d : Int) (H' : Hp), 0 ≤ d → Same H H' → ∀ p, H' p = none → Q (.ref p) (upd H' p (.lst [.int (n % 1000000007), .int d, .int 0])) := fun d H' hd s p hp =>
      k p _ _ _ _ (s.free hp) (same_step s hp) upd_same ⟨Int.emod_nonneg _ (by decide), Int.emod_lt_of_pos _ (by decide), hd, Int.le_refl 0⟩
    tm_at "wp"
    refine w_ited (fun h1 => ?_) (fun h1 => ?_)
    · tm_at "wp"
      rename_i hp
      exact fin _ _ (by split <;> omega) (Same.refl _) _ hp
    · tm_at "wp"
      refine w_ited (fun h2 => ?_) (fun h2 => ?_)
      · tm_at "wp"
        rename_i hp
        exact fin _ _ (by split <;> omega) (Same.refl _) _ hp
      · tm_at "wp"
        rename_i hp
        exact fin _ _ (Int.le_refl 0) (Same.refl _) _ hp
theorem ok__law_pool {P : Program} {w : World} {K : PySem.W.Frag} {mg : Str → Option Value} {base : Heap} (fr : Fre mg) (D : Dfd K mg "_law_pool" s__law_pool) : Has P w K mg base CX0 1 "_law_pool" s__law_pool ["_law_cell_here"] (sp__law_pool K) := has_pool (okc__law_pool fr D) rfl
theorem okc__law_draw {P : Program} {w : World} {K : PySem.W.Frag} {mg : Str → Option Value} {base : Heap} (fr : Fre mg) (D : Dfd K mg "_law_draw" s__law_draw) : Has P w K mg base CX0 1 "_law_draw" s__law_draw ["_law_pool_here", "_law_many"] (spc__law_draw K) := by
  refine D.has sc__law_draw (fun vs H Q E h => ?_) (fun cdv A outer s H vs Q E hr hg h => ?_)
  · obtain ⟨p, s0, d0, c0, m, rfl, _⟩ := h; rfl
  · obtain ⟨p, s0, d0, c0, m, rfl, hp, hv, m0, m1, k⟩ := h
    have nd := sc__law_draw.nd
    refine ⟨_, PSs.nox (pss_cons (ps_asg (pe_op op_add (pe_ix (k_ixL K) (pv 0) pe_int (fun _ _ => rfl)) pe_int) (pg_sub (pv 0) pe_int set_list))
      (pss_cons (ps_set (i := 2) nd rfl (Or.inl rfl) (pe_ix (k_ixL K) (pv 0) pe_int (fun _ _ => rfl)))
      (pss_cons (ps_asg (pe_op op_mod (pe_callTy c_int1 rfl fr.int_ (by decide +kernel) (pa_cons (pe_op op_add (pe_op op_add (pe_op op_mul (pv 2) (pe_op op_add (pe_op op_mod (pe_callTy c_int1 rfl fr.int_ (by decide +kernel) (pa_cons (pv 2) pa_nil)) pe_int) pe_int)) (pe_op op_mul pe_int (pe_ix (k_ixL K) (pv 0) pe_int (fun _ _ => rfl)))) pe_int) pa_nil)) pe_int) (pg_sub (pv 0) pe_int set_list))
      (pss_cons (ps_if (pt_cmpR op_gt (pe_ix (k_ixL K) (pv 0) pe_int (fun _ _ => rfl)) pe_int (nomark _)) (pss_cons (ps_asg (pe_callB c_divmod rfl fr.divmod_ (by decide +kernel) (pa_cons (pe_ix (k_ixL K) (pv 0) pe_int (fun _ _ => rfl)) (pa_cons (pv 1) pa_nil))) (k_gtup K (n := 2) rfl (pgs_cons (pg_sub (pv 0) pe_int set_list) (pgs_cons (pg_name (i := 3) nd rfl (Or.inl rfl)) pgs_nil))))
      (pss_one (ps_ret (pv 3)))) pss_nil)
      (pss_one (ps_ret (pe_op op_mod (pe_op op_fdiv (pe_ix (k_ixL K) (pv 0) pe_int (fun _ _ => rfl)) pe_int) (pv 1)))))))), ?_⟩
    try dsimp only [cxOf]
    obtain ⟨v0, v1, v2, v3⟩ := hv
    tm_at "wp"
    refine w_ixL (SqL.of hp) (v := .int c0) rfl ?_
    tm_at "wp"
    refine w_setL hp (j := 2) rfl ?_
    tm_at "wp"
    refine w_ixL (SqL.of upd_same) (v := .int s0) rfl ?_
    tm_at "wp"
    refine w_ixL (SqL.of upd_same) (v := .int (c0 + 1)) rfl ?_
    tm_at "wp"
    refine w_setL upd_same (j := 0) rfl ?_
    tm_at "wp"
    generalize hs1 : (s0 * (s0 % 46007 + 20011) + 60013 * (c0 + 1) + 5) % 1000000007 = s1
    have b0 : 0 ≤ s1 := by rw [← hs1]; exact Int.emod_nonneg _ (by decide)
    have b1 : s1 < 1000000007 := by rw [← hs1]; exact Int.emod_lt_of_pos _ (by decide)
    rw [upd_upd]
    have sb : ∀ l : HO, SameB p H (upd H p l) := fun l => SameB.upd
    refine w_ixL (SqL.of upd_same) (v := .int d0) rfl ?_
    tm_at "wp"
    refine w_ited (fun h1 => ?_) (fun h1 => ?_)
    · tm_at "wp"
      refine w_ixL (SqL.of upd_same) (v := .int d0) rfl ?_
      tm_at "wp"
      refine w_divW (divp200 m0 m1) ?_
      intro q hq
      have npq : p ≠ q := ne_of_none (upd_same (H := H) (a := p)) hq
      refine w_gtup (SqT.of upd_same) rfl ?_
      tm_at "wp"
      refine w_setL ((upd_ne npq).trans upd_same) (j := 1) rfl ?_
      tm_at "wp"
      refine k _ s1 (d0 / m) (c0 + 1) _ (Int.emod_nonneg _ (by omega)) (Int.emod_lt_of_pos _ m0) (fun b o nb e => ?_) upd_same ⟨b0, b1, Int.ediv_nonneg v2 (by omega), by omega⟩
      rw [upd_ne nb]
      have e2 := sb (.lst [.int s1, .int d0, .int (c0 + 1)]) b o nb e
      exact hp_new e2 hq
    · tm_at "wp"
      refine w_ixL (SqL.of upd_same) (v := .int s1) rfl ?_
      tm_at "wp"
      refine k _ s1 d0 (c0 + 1) _ (Int.emod_nonneg _ (by omega)) (Int.emod_lt_of_pos _ m0) (sb _) upd_same ⟨b0, b1, v2, by omega⟩
theorem ok__law_draw {P : Program} {w : World} {K : PySem.W.Frag} {mg : Str → Option Value} {base : Heap} (fr : Fre mg) (D : Dfd K mg "_law_draw" s__law_draw) : Has P w K mg base CX0 1 "_law_draw" s__law_draw ["_law_pool_here", "_law_many"] (sp__law_draw K) := has_draw (okc__law_draw fr D) rfl
theorem ok__law_words {P : Program} {w : World} {K : PySem.W.Frag} {mg : Str → Option Value} {base : Heap} (fr : Fre mg) (D : Dfd K mg "_law_words" s__law_words)
    (h__law_draw : Has P w K mg base CX0 1 "_law_draw" s__law_draw ["_law_pool_here", "_law_many"] (sp__law_draw K)) : Has P w K mg base CX0 2 "_law_words" s__law_words ["_law_pool_here", "_law_many"] (sp__law_words K) := by
  refine D.has sc__law_words (fun vs H Q E h => ?_) (fun cdv A outer s H vs Q E hr hg h => ?_)
  · obtain ⟨p, m, rfl, _⟩ := h; rfl
  · obtain ⟨p, m, rfl, hp, m0, m1, k⟩ := h
    have nd := sc__law_words.nd
    refine ⟨_, PSs.nox (pss_cons (ps_set (i := 2) nd rfl (Or.inr rfl) pe_str)
      (pss_cons (ps_set (i := 3) nd rfl (Or.inr rfl) (pe_lst (pa_cons pe_str (pa_cons pe_str (pa_cons pe_str (pa_cons pe_str (pa_cons pe_str (pa_cons pe_str (pa_cons pe_str (pa_cons pe_str (pa_cons pe_str (pa_cons pe_str (pa_cons pe_str (pa_cons pe_str (pa_cons pe_str (pa_cons pe_str (pa_cons pe_str pa_nil)))))))))))))))))
      (pss_cons (ps_asg (pe_tup (pa_cons (pe_fn h__law_draw pb__law_draw (hr.mono (by decide)) hg rfl pass0 (pa_cons (pv 0) (pa_cons pe_int pa_nil))) (pa_cons (pe_fn h__law_draw pb__law_draw (hr.mono (by decide)) hg rfl pass0 (pa_cons (pv 0) (pa_cons pe_int pa_nil))) pa_nil))) (k_gtup K (n := 2) rfl (pgs_cons (pg_name (i := 4) nd rfl (Or.inl rfl)) (pgs_cons (pg_name (i := 5) nd rfl (Or.inr rfl)) pgs_nil))))
      (pss_cons (ps_if (pt_cmpR op_eq (pv 4) pe_int (nomark _)) (pss_one (ps_ret (pe_lc (own := [("_law_k", 6)]) (g := gName 6) (tt := tYes) rfl nd (pi_range1 rfl fr.range_ (pa_cons (pv 1) pa_nil)) (blkOk_by (own := [("_law_k", 6)]) (N := N__law_words) (sc := defScope s__law_words) (by decide +kernel)) (fun _ _ _ _ _ => (pg_name (i := 6) nd rfl (Or.inl rfl))) (fun _ _ _ _ _ => pts_nil) (fun _ _ _ _ _ => (pe_ix (k_ixL K) (pv 3) (pe_op op_mod (pe_op op_add (pv 5) (pe_op op_mul pe_int (pv 6))) pe_int) (fun _ _ => rfl)))))) pss_nil)
      (pss_cons (ps_if (pt_cmpR op_eq (pv 4) pe_int (nomark _)) (pss_one (ps_ret (pe_lc (own := [("_law_k", 6)]) (g := gName 6) (tt := tYes) rfl nd (pi_range1 rfl fr.range_ (pa_cons (pv 1) pa_nil)) (blkOk_by (own := [("_law_k", 6)]) (N := N__law_words) (sc := defScope s__law_words) (by decide +kernel)) (fun _ _ _ _ _ => (pg_name (i := 6) nd rfl (Or.inl rfl))) (fun _ _ _ _ _ => pts_nil) (fun _ _ _ _ _ => (pe_op o_mulS (pe_ix ix_str (pv 2) (pe_op op_mod (pe_op op_add (pv 5) (pe_op op_mul pe_int (pv 6))) pe_int) (fun _ _ => rfl)) (pe_op op_add pe_int (pe_op op_mod (pv 6) pe_int))))))) pss_nil)
      (pss_cons (ps_set (i := 7) nd rfl (Or.inr rfl) (k_join K pe_str (pe_lc (own := [("_law_k", 6)]) (g := gName 6) (tt := tYes) rfl nd (pi_range1 rfl fr.range_ (pa_cons (pe_fn h__law_draw pb__law_draw (hr.mono (by decide)) hg rfl pass0 (pa_cons (pv 0) (pa_cons pe_int pa_nil))) pa_nil)) (blkOk_by (own := [("_law_k", 6)]) (N := N__law_words) (sc := defScope s__law_words) (by decide +kernel)) (fun _ _ _ _ _ => (pg_name (i := 6) nd rfl (Or.inl rfl))) (fun _ _ _ _ _ => pts_nil) (fun _ _ _ _ _ => (pe_ix ix_str (pv 2) (pe_fn h__law_draw pb__law_draw (hr.mono (by decide)) hg rfl pass0 (pa_cons (pv 0) (pa_cons pe_int pa_nil))) (fun _ _ => rfl))))))
      (pss_cons (ps_set (i := 8) nd rfl (Or.inr rfl) (pe_fn h__law_draw pb__law_draw (hr.mono (by decide)) hg rfl pass0 (pa_cons (pv 0) (pa_cons (pe_op op_add (pe_callB (k_len K) rfl fr.len_ (by decide +kernel) (pa_cons (pv 7) pa_nil)) pe_int) pa_nil))))
      (pss_one (ps_ret (pe_lc (own := [("_law_k", 6)]) (g := gName 6) (tt := tYes) rfl nd (pi_range1 rfl fr.range_ (pa_cons (pv 1) pa_nil)) (blkOk_by (own := [("_law_k", 6)]) (N := N__law_words) (sc := defScope s__law_words) (by decide +kernel)) (fun _ _ _ _ _ => (pg_name (i := 6) nd rfl (Or.inl rfl))) (fun _ _ _ _ _ => pts_nil) (fun _ _ _ _ _ => (pe_op o_addS (pe_op o_addS (pe_slice sl_str (pv 7) po_none (po_some (pv 8))) (pe_ix ix_str (pv 2) (pe_op op_mod (pe_op op_add (pv 5) (pe_op op_mul pe_int (pv 6))) pe_int) (fun _ _ => rfl))) (pe_slice sl_str (pv 7) (po_some (pv 8)) po_none))))))))))))), ?_⟩
    try dsimp only [cxOf]
    have est : ∀ a0 a1 : V, L2.start N__law_words [a0, a1] = [some a0, some a1, none, none, none, none, none, none, none] := fun _ _ => rfl
    simp only [est]
    clear est
    have fin : ∀ (f : Nat → Str) (D0 : Addr) (acc : List V) (H1 H2 : Hp), Same H H1 → H1 D0 = none → Same H1 H2 → H2 D0 = some (.lst acc) → acc.length = m.toNat → (∀ (i : Nat) (y : V), acc[i]? = some y → y = .str (f i)) → (((List.range 15).map f).Nodup ∧ ∀ w ∈ (List.range 15).map f, isName w = true) → Q (.ref D0) H2 := by
      intro f D0 acc H1 H2 s1 h0 s2 ha hl hf hw
      refine k D0 ((List.range m.toNat).map f) H2 (s1.free h0) (s1.trans s2) ?_ (words_mk (by omega) hw)
      rw [ha]
      have e : acc = (List.range m.toNat).map fun i => V.str (f i) := acc_map (by simpa using hl) fun i y e => by
        obtain ⟨h3, _⟩ := List.getElem?_eq_some_iff.mp e
        exact ⟨i, List.getElem?_range (by omega), hf i y e⟩
      rw [e, List.map_map]; rfl
    tm_at "vp"
    rename_i ml hml
    refine ⟨p, 3, rfl, by tm_at "heap", by decide, by decide, fun way H1 w0 w1 s1 => ?_⟩
    tm_at "vp"
    refine ⟨p, 15, rfl, by tm_at "heap", by decide, by decide, fun b H2 b0 b1 s2 => ?_⟩
    have s02 : Same H H2 := ((same_new hml).trans s1).trans s2
    have hm2 : SqL K H2 ml (menuW.map V.str) := SqL.of (s2 _ _ (s1 _ _ upd_same))
    have hp2 : H2 p = some (poolO p) := s02 _ _ hp
    tm_at "vp"
    rename_i tp htp
    refine w_gtup (SqT.of upd_same) rfl ?_
    have s3 : Same H2 (upd H2 tp (.tup [.int way, .int b])) := same_new htp
    have s03 := s02.trans s3
    generalize hH3 : upd H2 tp (.tup [.int way, .int b]) = H3 at s3 s03
    have hm3 := s3.seq hm2
    have hp3 := s3 _ _ hp2
    tm_at "vp"
    refine w_ited (fun h1 => ?_) (fun h1 => ?_)
    · tm_at "vp"
      refine w_onR1 ⟨by omega, by omega⟩ ?_
      intro D0 hD
      refine lc_map walk_range (n := m.toNat) (by omega) (fun i y => y = .str (wordA b.toNat i)) hD (fun _ _ => trivial) ?_ ?_ mono_gname
      · rintro i y H4 H5 hi s4 ⟨rfl, rfl⟩ Qy hq
        refine w_gname ⟨rfl, ?_⟩
        tm_at "vp"
        refine w_ixL (s4.seq hm3) (v := .str (wordA b.toNat i)) ?_ (hq _ _ (Same.refl _) rfl)
        refine at_of (j := (b.toNat + 4 * i) % 15) (by omega) ?_
        have hlt : (b.toNat + 4 * i) % 15 < menuW.length := by show _ < 15; omega
        rw [List.getElem?_map, List.getElem?_eq_getElem hlt]
        simp [wordA, List.getD, List.getElem?_eq_getElem hlt]
      · intro acc H4 s4 h0 ha hl hf
        exact fin _ D0 acc H3 H4 s03 h0 s4 ha hl hf (wordA_all b.toNat (by omega))
    · tm_at "vp"
      refine w_ited (fun h2 => ?_) (fun h2 => ?_)
      · tm_at "vp"
        refine w_onR1 ⟨by omega, by omega⟩ ?_
        intro D0 hD
        refine lc_map walk_range (n := m.toNat) (by omega) (fun i y => y = .str (wordB b.toNat i)) hD (fun _ _ => trivial) ?_ ?_ mono_gname
        · rintro i y H4 H5 hi s4 ⟨rfl, rfl⟩ Qy hq
          refine w_gname ⟨rfl, ?_⟩
          tm_at "vp"
          refine w_ixS (z := letters) (by decide +kernel) (letters_at (Int.emod_nonneg _ (by decide)) (Int.emod_lt_of_pos _ (by decide))) ?_
          tm_at "vp"
          refine w_mulS (n := 1 + i % 8) (by omega) (by show 1 * _ ≤ _; omega) (by omega) (hq _ _ (Same.refl _) ?_)
          unfold wordB
          rw [show ((b + 7 * (0 + (i : Int))) % 26).toNat = (b.toNat + 7 * i) % 26 by omega]
        · intro acc H4 s4 h0 ha hl hf
          exact fin _ D0 acc H3 H4 s03 h0 s4 ha hl hf (wordB_all b.toNat (by omega))
      · tm_at "vp"
        refine ⟨p, 8, rfl, hp3, by decide, by decide, fun n8 H4 n0 n1 s4 => ?_⟩
        tm_at "vp"
        refine w_onR1 ⟨by omega, by omega⟩ ?_
        intro D0 hD
        have hp4 := s4 _ _ hp3
        refine lc_map walk_range (n := n8.toNat) (by omega) (fun i y => ∃ c, y = .str ⟨#[c]⟩ ∧ isLet c = true) hD (fun _ _ => trivial) ?_ ?_ mono_gname
        · rintro i y H5 H6 hi s5 ⟨rfl, rfl⟩ Qy hq
          refine w_gname ⟨rfl, ?_⟩
          tm_at "vp"
          refine ⟨p, 26, rfl, s5 _ _ hp4, by decide, by decide, fun c H6 c0 c1 s6 => ?_⟩
          tm_at "vp"
          refine w_ixS (z := letters) (by decide +kernel) (letters_at c0 c1) (hq _ _ s6 ⟨_, rfl, ?_⟩)
          unfold isLet
          rw [decide_eq_true (by omega), decide_eq_true (by omega)]; rfl
        · intro acc H5 s5 h0 ha hl hf
          obtain ⟨ys, ey, hy⟩ : ∃ ys : List Str, acc = ys.map V.str ∧ ∀ y ∈ ys, ∃ c, y = ⟨#[c]⟩ ∧ isLet c = true := by
            refine ⟨acc.map fun v => match v with | .str y => y | _ => Str.empty, ?_, fun y hy => ?_⟩
            · rw [List.map_map]
              refine (List.map_id acc).symm.trans (List.map_congr_left fun v hv => ?_)
              obtain ⟨i, hi, e⟩ := List.mem_iff_getElem.mp hv
              obtain ⟨c, e2, _⟩ := hf i v (by rw [List.getElem?_eq_getElem hi, e])
              subst e2; rfl
            · obtain ⟨v, hv, e⟩ := List.mem_map.mp hy
              obtain ⟨i, hi, e1⟩ := List.mem_iff_getElem.mp hv
              obtain ⟨c, e2, hc⟩ := hf i v (by rw [List.getElem?_eq_getElem hi, e1])
              subst e2
              exact ⟨c, e.symm, hc⟩
          have hyl : ys.length = n8.toNat := by rw [← hl, ey, List.length_map]
          have flat : ∀ l : List Str, (∀ y ∈ l, ∃ c, y = ⟨#[c]⟩ ∧ isLet c = true) → (l.map fun y => y.cps.toList).flatten.length = l.length ∧ (∀ c ∈ (l.map fun y => y.cps.toList).flatten, isLet c = true) ∧ (l.map (·.length)).sum = l.length := by
            intro l
            induction l with
            | nil => intro _; simp
            | cons y r ih =>
              intro h
              obtain ⟨c, rfl, hc⟩ := h _ List.mem_cons_self
              obtain ⟨i1, i2, i3⟩ := ih fun z hz => h z (List.mem_cons_of_mem _ hz)
              refine ⟨by simp at i1 ⊢; omega, fun d hd => ?_, ?_⟩
              · simp at hd
                rcases hd with h1 | h1
                · rw [h1]; exact hc
                · exact i2 d (by simpa using h1)
              · simp only [List.map_cons, List.sum_cons, List.length_cons]
                have : (⟨#[c]⟩ : Str).length = 1 := rfl
                omega
          obtain ⟨f1, f2, f3⟩ := flat ys hy
          subst ey
          refine w_join (SqL.of ha) (by rw [f3]; show _ + _ * 0 ≤ _; omega) ?_
          rw [txt_join_eq]
          generalize hst : Str.join (Str.ofString "") ys = stem
          have est : stem.cps.toList = (ys.map fun y => y.cps.toList).flatten := by rw [← hst]; exact join0_list ys
          have lst : stem.length = n8.toNat := by rw [len_list, est, f1, hyl]
          have s05 : Same H H5 := (s03.trans s4).trans s5
          tm_at "vp"
          refine w_lenS (sz_le (by omega)) ?_
          tm_at "vp"
          refine ⟨p, _, rfl, s05 _ _ hp, by omega, by omega, fun at_ H6 a0 a1 s6 => ?_⟩
          have s06 := s05.trans s6
          obtain ⟨q, rfl⟩ := Int.eq_ofNat_of_zero_le a0
          have hsz : stem.cps.size = stem.length := rfl
          tm_at "vp"
          refine w_onR1 ⟨by omega, by omega⟩ ?_
          intro D1 hD1
          refine lc_map walk_range (n := m.toNat) (by omega) (fun i y => y = .str (wordC b.toNat (stem.cps.toList.take q) (stem.cps.toList.drop q) i)) hD1 (fun _ _ => trivial) ?_ ?_ mono_gname
          · rintro i y H7 H8 hi s7 ⟨rfl, rfl⟩ Qy hq
            have c1 : cutS stem none (some ((q : Nat) : Int)) = ⟨(stem.cps.toList.take q).toArray⟩ := by
              unfold cutS
              rw [HT.sIx_nat, HT.sIx_none, Nat.min_eq_left (by omega)]
              simp
            have c2 : cutS stem (some ((q : Nat) : Int)) none = ⟨(stem.cps.toList.drop q).toArray⟩ := by
              unfold cutS
              rw [HT.sIx_nat, HT.sIx_none, Nat.min_eq_left (by omega)]
              have : stem.cps.toList.length = stem.length := (len_list stem).symm
              rw [List.take_of_length_le (by rw [List.length_drop]; omega)]
            refine w_gname ⟨rfl, ?_⟩
            tm_at "vp"
            refine w_slS (sz_le (by omega)) ?_
            tm_at "vp"
            refine w_ixS (z := letters) (by decide +kernel) (letters_at (Int.emod_nonneg _ (by decide)) (Int.emod_lt_of_pos _ (by decide))) ?_
            rw [c1]
            refine w_addS (sz_le ?_) ?_
            · rw [len_list, len_list]; simp; omega
            tm_at "vp"
            refine w_slS (sz_le (by omega)) ?_
            rw [c2]
            refine w_addS (sz_le ?_) (hq _ _ (Same.refl _) ?_)
            · rw [len_list, len_list, app_list]; simp; omega
            · congr 1
              refine str_ext ?_
              rw [app_list, app_list]
              unfold wordC
              rw [show ((b + 5 * (0 + (i : Int))) % 26).toNat = (b.toNat + 5 * i) % 26 by omega]
              simp
          · intro acc2 H7 s7 h02 ha2 hl2 hf2
            refine fin _ D1 acc2 H6 H7 s06 h02 s7 ha2 hl2 hf2 (wordC_all (by omega) (fun c hc => f2 c (est ▸ List.mem_of_mem_take hc)) (fun c hc => f2 c (est ▸ List.mem_of_mem_drop hc)) ?_)
            rw [List.length_take, List.length_drop, ← len_list]; omega
theorem ok__law_often {P : Program} {w : World} {K : PySem.W.Frag} {mg : Str → Option Value} {base : Heap} (fr : Fre mg) (D : Dfd K mg "_law_often" s__law_often)
    (h__law_draw : Has P w K mg base CX0 1 "_law_draw" s__law_draw ["_law_pool_here", "_law_many"] (sp__law_draw K)) : Has P w K mg base CX0 2 "_law_often" s__law_often ["_law_pool_here"] (sp__law_often K) := by
  refine D.has sc__law_often (fun vs H Q E h => ?_) (fun cdv A outer s H vs Q E hr hg h => ?_)
  · obtain ⟨p, rfl, _⟩ := h; rfl
  · obtain ⟨p, rfl, hp, k⟩ := h
    have nd := sc__law_often.nd
    refine ⟨_, PSs.nox (pss_cons (ps_set (i := 1) nd rfl (Or.inl rfl) (pe_fn h__law_draw pb__law_draw (hr.mono (by decide)) hg rfl pass0 (pa_cons (pv 0) (pa_cons pe_int pa_nil))))
      (pss_one (ps_ret (pe_ix (k_ixL K) (pe_lst (pa_cons pe_int (pa_cons pe_int (pa_cons pe_int (pa_cons (pe_op op_add pe_int (pe_fn h__law_draw pb__law_draw (hr.mono (by decide)) hg rfl pass0 (pa_cons (pv 0) (pa_cons pe_int pa_nil)))) (pa_cons (pe_op op_add pe_int (pe_fn h__law_draw pb__law_draw (hr.mono (by decide)) hg rfl pass0 (pa_cons (pv 0) (pa_cons (pe_op op_pow pe_int pe_int) pa_nil)))) (pa_cons (pe_op op_pow pe_int pe_int) pa_nil))))))) (pv 1) (fun _ _ => rfl))))), ?_⟩
    try dsimp only [cxOf]
    tm_at "wp"
    refine ⟨p, 6, rfl, hp, by decide, by decide, fun way H1 w0 w1 s1 => ?_⟩
    tm_at "wp"
    refine ⟨p, 30, rfl, s1 _ _ hp, by decide, by decide, fun a H2 a0 a1 s2 => ?_⟩
    have s02 := s1.trans s2
    tm_at "wp"
    refine ⟨p, _, rfl, s02 _ _ hp, by decide, by decide, fun b H3 b0 b1 s3 => ?_⟩
    have s03 := s02.trans s3
    tm_at "wp"
    rename_i q hq
    have s04 : Same H (upd H3 q (.lst [.int 1, .int 2, .int 3, .int (1 + a), .int (1 + b), .int ((10 : Int) ^ (30 : Int).toNat)])) := same_step s03 hq
    have e30 : (10 : Int) ^ (30 : Int).toNat = 10 ^ 30 := by decide
    rw [e30] at b1 s04 ⊢
    obtain ⟨n, rfl⟩ := Int.eq_ofNat_of_zero_le w0
    have fin : ∀ r : Int, 1 ≤ r → r ≤ 10 ^ 30 → [V.int 1, .int 2, .int 3, .int (1 + a), .int (1 + b), .int (10 ^ 30)][n]? = some (.int r) → rIxL K (.ref q) (.int ((n : Nat) : Int)) (upd H3 q (.lst [.int 1, .int 2, .int 3, .int (1 + a), .int (1 + b), .int (10 ^ 30)])) Q := fun r r0 r1 e =>
      w_ixL (SqL.of upd_same) (atI_nat e) (k r _ r0 r1 s04)
    have hn : n < 6 := by omega
    match n, hn with
    | 0, _ => exact fin 1 (by decide) (by decide) rfl
    | 1, _ => exact fin 2 (by decide) (by decide) rfl
    | 2, _ => exact fin 3 (by decide) (by decide) rfl
    | 3, _ => exact fin (1 + a) (by omega) (by omega) rfl
    | 4, _ => exact fin (1 + b) (by omega) (by omega) rfl
    | 5, _ => exact fin (10 ^ 30) (by decide) (by decide) rfl
theorem ok__law_bag {P : Program} {w : World} {K : PySem.W.Frag} {mg : Str → Option Value} {base : Heap} (fr : Fre mg) (D : Dfd K mg "_law_bag" s__law_bag)
    (h__law_draw : Has P w K mg base CX0 1 "_law_draw" s__law_draw ["_law_pool_here", "_law_many"] (sp__law_draw K))
    (h__law_often : Has P w K mg base CX0 2 "_law_often" s__law_often ["_law_pool_here"] (sp__law_often K)) : Has P w K mg base CX0 3 "_law_bag" s__law_bag ["_law_pool_here", "_law_words_here", "_law_most"] (sp__law_bag K) := by
  refine D.has sc__law_bag (fun vs H Q E h => ?_) (fun cdv A outer s H vs Q E hr hg h => ?_)
  · obtain ⟨p, a, ws, m, n, rfl, _⟩ := h; rfl
  · obtain ⟨p, a, ws, m, n, rfl, hp, hs, hw, hn, m0, m1, k⟩ := h
    have nd := sc__law_bag.nd
    refine ⟨_, PSs.nox (pss_cons (ps_set (i := 3) nd rfl (Or.inl rfl) (pe_lst pa_nil))
      (pss_cons (ps_for PassesOwn.never rfl (k_iList K (pe_callB (k_sortedS K) rfl fr.sorted_ (by decide +kernel) (pa_cons (pv 1) pa_nil))) (pg_name (i := 4) nd rfl (Or.inl rfl))
        (pss_one (ps_if (pt_cmpR op_gt (pe_fn h__law_draw pb__law_draw (hr.mono (by decide)) hg rfl pass0 (pa_cons (pv 0) (pa_cons pe_int pa_nil))) pe_int (nomark _)) (pss_one (ps_expr (k_bm K PySem.F.plainAttrs_list PySem.F.slot_list_append PySem.F.type_list_append mt_append (pv 3) (pa_cons (pe_tup (pa_cons (pv 4) (pa_cons (pe_ifExp (pt_cmpR op_eq (pv 2) pe_int (nomark _)) (pe_fn h__law_often pb__law_often (hr.mono (by decide)) hg rfl pass0 (pa_cons (pv 0) pa_nil)) (pe_op op_add pe_int (pe_fn h__law_draw pb__law_draw (hr.mono (by decide)) hg rfl pass0 (pa_cons (pv 0) (pa_cons (pv 2) pa_nil))))) pa_nil))) pa_nil)))) pss_nil)))
      (pss_one (ps_ret (pe_callTy (k_tuple K) rfl fr.tuple_ (by decide +kernel) (pa_cons (pv 3) pa_nil)))))), ?_⟩
    try dsimp only [cxOf]
    tm_at "wp"
    rename_i l hl
    refine w_sortedS ((same_new hl).seq hs) (by rw [hw.len]; exact hn) ?_
    intro ys q hperm hsorted hq
    have hlq : l ≠ q := ne_fresh (upd_same) hq
    have hlen : ys.length = n := by rw [hperm.length_eq, hw.len]
    have asc := sorted_asc hsorted (hperm.nodup_iff.mpr hw.nd)
    have mem : ∀ w ∈ ys, w ∈ ws := fun w h => hperm.mem_iff.mp h
    have s1 : Same H (upd (upd H l (.lst [])) q (.lst (ys.map V.str))) := same_step (same_new hl) hq
    have hq0 : H q = none := free_upd hq
    refine w_onL (SqL.of upd_same) ?_
    refine for_go (walk_list (xs := ys.map V.str)) (fun i σ H' => ∃ (u : Option V) (ps : Bag) (xs : List V), σ = [some (.ref p), some (.ref a), some (.int m), some (.ref l), u] ∧ Same H H' ∧ H' q = some (.lst (ys.map V.str)) ∧ H' l = some (.lst xs) ∧ DpAll K H' xs (ps.map pairD) ∧ BagOk ps ∧ (∀ z ∈ ps, z.1 ∈ ys.take i) ∧ ps.length ≤ i ∧ (∀ z ∈ ps, z.2 ≤ 10 ^ 30) ∧ (0 < m → ∀ z ∈ ps, z.2 ≤ m))
      ⟨none, [], [], rfl, s1, upd_same, (upd_ne hlq).trans upd_same, .nil, ⟨.nil, nofun, nofun⟩, nofun, Nat.le_refl _, nofun, fun _ => nofun⟩ (fun i σ H' _ ⟨_, _, _, _, _, h, _⟩ => SqL.of h) ?_ ?_
    · rintro i v σ H1 H2 hi ⟨u, ps, xs, rfl, s2, hq2, hl2, hd, hb, hm, hlp, hc, hc2⟩ ⟨rfl, hy⟩
      rw [List.length_map] at hi
      have ey : v = .str ys[i] := by rw [List.getElem?_map, List.getElem?_eq_getElem hi] at hy; exact (Option.some.inj hy).symm
      subst ey
      have ht : ys.take (i + 1) = ys.take i ++ [ys[i]] := take_succ_snoc (List.getElem?_eq_getElem hi)
      have hxl : xs.length = ps.length := by rw [dps_len hd, List.length_map]
      have skip : ∀ (u' : Option V) H', Same H2 H' → ∃ (u : Option V) (ps : Bag) (xs : List V), [some (V.ref p), some (V.ref a), some (V.int m), some (V.ref l), u'] = [some (.ref p), some (.ref a), some (.int m), some (.ref l), u] ∧ Same H H' ∧ H' q = some (.lst (ys.map V.str)) ∧ H' l = some (.lst xs) ∧ DpAll K H' xs (ps.map pairD) ∧ BagOk ps ∧ (∀ z ∈ ps, z.1 ∈ ys.take (i + 1)) ∧ ps.length ≤ i + 1 ∧ (∀ z ∈ ps, z.2 ≤ 10 ^ 30) ∧ (0 < m → ∀ z ∈ ps, z.2 ≤ m) := fun u' H' s' =>
        ⟨u', ps, xs, rfl, s2.trans s', s' _ _ hq2, s' _ _ hl2, dps_same s' hd, hb, fun z hz => by rw [ht]; exact List.mem_append_left _ (hm z hz), Nat.le_succ_of_le hlp, hc, hc2⟩
      have app : ∀ (c : Int) (T : Addr) H', 1 ≤ c → c ≤ 10 ^ 30 → (0 < m → c ≤ m) → Same H2 H' → H' T = none → ∀ u' : Option V, rAppend (.ref l) [.ref T] (upd H' T (.tup [.str ys[i], .int c])) (fun _ H3 => ∃ (u : Option V) (ps : Bag) (xs : List V), [some (V.ref p), some (V.ref a), some (V.int m), some (V.ref l), u'] = [some (.ref p), some (.ref a), some (.int m), some (.ref l), u] ∧ Same H H3 ∧ H3 q = some (.lst (ys.map V.str)) ∧ H3 l = some (.lst xs) ∧ DpAll K H3 xs (ps.map pairD) ∧ BagOk ps ∧ (∀ z ∈ ps, z.1 ∈ ys.take (i + 1)) ∧ ps.length ≤ i + 1 ∧ (∀ z ∈ ps, z.2 ≤ 10 ^ 30) ∧ (0 < m → ∀ z ∈ ps, z.2 ≤ m)) := by
        intro c T H' c0 c1 c2 s' hT u'
        have hl3 : (upd H' T (.tup [.str ys[i], .int c])) l = some (.lst xs) := hp_new (s' _ _ hl2) hT
        refine w_append hl3 (sz_lt (by omega)) ⟨u', ps ++ [(ys[i], c)], xs ++ [.ref T], rfl, same_mut (same_step (s2.trans s') hT) hl, ?_, upd_same, ?_, ?_, ?_, ?_, ?_, ?_⟩
        · rw [upd_ne (ne_of hl3 (hp_new (s' _ _ hq2) hT) ?_).symm]
          · exact hp_new (s' _ _ hq2) hT
          · intro z
            injection z with z
            have := congrArg List.length z
            rw [List.length_map] at this
            omega
        · have st : SameT (upd H' T (.tup [.str ys[i], .int c])) (upd (upd H' T (.tup [.str ys[i], .int c])) l (.lst (xs ++ [.ref T]))) := SameT.lst hl3
          rw [List.map_append]
          refine dps_snoc ?_ ?_
          · exact dps_flat st (dps_same (s'.trans (same_new hT)) hd) (by have := flat_bag ps; simpa [bagD, flatD] using this)
          · exact pair_mk (st.sqt (SqT.of upd_same))
        · refine ⟨?_, ?_, ?_⟩
          · rw [List.pairwise_append]
            refine ⟨hb.asc, List.pairwise_singleton _ _, fun z hz z' hz' => ?_⟩
            rw [List.mem_singleton] at hz'
            subst hz'
            exact asc_take asc hi (hm z hz)
          · intro z hz
            rcases List.mem_append.mp hz with h | h
            · exact hb.nam z h
            · rw [List.mem_singleton] at h; subst h
              exact hw.nam _ (mem _ (List.getElem_mem hi))
          · intro z hz
            rcases List.mem_append.mp hz with h | h
            · exact hb.pos z h
            · rw [List.mem_singleton] at h; subst h; exact c0
        · intro z hz
          rw [ht]
          rcases List.mem_append.mp hz with h | h
          · exact List.mem_append_left _ (hm z h)
          · rw [List.mem_singleton] at h; subst h; exact List.mem_append_right _ (List.mem_singleton.mpr rfl)
        · simp; omega
        · intro z hz
          rcases List.mem_append.mp hz with h | h
          · exact hc z h
          · rw [List.mem_singleton] at h; subst h; exact c1
        · intro m2 z hz
          rcases List.mem_append.mp hz with h | h
          · exact hc2 m2 z h
          · rw [List.mem_singleton] at h; subst h; exact c2 m2
      tm_at "wp"
      refine ⟨p, 4, rfl, s2 _ _ hp, by decide, by decide, fun r H3 r0 r1 s3 => ?_⟩
      tm_at "wp"
      refine w_ited (fun h1 => ?_) (fun h1 => ?_)
      · tm_at "wp"
        refine w_tyL (s3 _ _ hl2) ?_
        tm_at "wp"
        refine w_ited (fun h2 => ?_) (fun h2 => ?_)
        · tm_at "wp"
          refine ⟨p, rfl, (s2.trans s3) _ _ hp, fun c H4 c0 c1 s4 => ?_⟩
          tm_at "wp"
          rename_i T hT
          exact app c T H4 c0 c1 (fun h => by omega) (s3.trans s4) hT _
        · tm_at "wp"
          refine ⟨p, m, rfl, (s2.trans s3) _ _ hp, by omega, by omega, fun c H4 c0 c1 s4 => ?_⟩
          tm_at "wp"
          rename_i T hT
          exact app (1 + c) T H4 (by omega) (by omega) (fun h => by omega) (s3.trans s4) hT _
      · tm_at "wp"
        exact skip _ _ s3
    · rintro σ H1 ⟨u, ps, xs, rfl, s2, hq2, hl2, hd, hb, hm, hlp, hc, hc2⟩
      rw [List.length_map] at hlp hm
      tm_at "wp"
      refine w_tupL (SqL.of hl2) ?_
      intro T hT
      refine k (.ref T) ps _ (same_step s2 hT) (.tup (SqT.of upd_same) (dps_same (same_new hT) hd)) hb (fun z hz => mem _ (List.mem_of_mem_take (hm z hz))) (by omega) hc hc2
theorem ok__law_kind {P : Program} {w : World} {K : PySem.W.Frag} {mg : Str → Option Value} {base : Heap} (fr : Fre mg) (xE : ExF K mg) (D : Dfd K mg "_law_kind" s__law_kind) : HasP P w K mg base 1 "_law_kind" s__law_kind ["_law_e"] (sp__law_kind K) := by
  refine D.hasP sc__law_kind (fun p vs H Q E h => ?_) (fun cdv A outer s H vs Q E p hr hg h => ?_)
  · obtain ⟨e, y, dd, rfl, _⟩ := h; rfl
  · obtain ⟨e, y, dd, rfl, he, hh, k⟩ := h
    have nd := sc__law_kind.nd
    have held : ∀ {X : Cx}, p ∈ X.pn → Held X p (He.ga K e.1) dd := fun hp => ⟨hp, hh.1, hh.2.1⟩
    refine ⟨_, (pss_cons (ps_set (i := 1) nd rfl (Or.inl rfl) (pe_lst (pa_cons (pe_callB (k_isP K (xE.ec e he) (held List.mem_cons_self)) rfl fr.isinstance_ (by decide +kernel) (pa_cons (pv 0) (pa_cons (pe_glob (v := .ref (He.ga K "InvalidCapacity")) rfl (xE.glo "InvalidCapacity" (by decide +kernel)) rfl) pa_nil))) (pa_cons (pe_callB (k_isP K (xE.ec e he) (held List.mem_cons_self)) rfl fr.isinstance_ (by decide +kernel) (pa_cons (pv 0) (pa_cons (pe_glob (v := .ref (He.ga K "InvalidName")) rfl (xE.glo "InvalidName" (by decide +kernel)) rfl) pa_nil))) (pa_cons (pe_callB (k_isP K (xE.ec e he) (held List.mem_cons_self)) rfl fr.isinstance_ (by decide +kernel) (pa_cons (pv 0) (pa_cons (pe_glob (v := .ref (He.ga K "InvalidTimes")) rfl (xE.glo "InvalidTimes" (by decide +kernel)) rfl) pa_nil))) pa_nil)))))
      (pss_cons (ps_set (i := 1) nd rfl (Or.inl rfl) (pe_op op_cat (pv 1) (pe_lst (pa_cons (pe_callB (k_isP K (xE.ec e he) (held List.mem_cons_self)) rfl fr.isinstance_ (by decide +kernel) (pa_cons (pv 0) (pa_cons (pe_glob (v := .ref (He.ga K "InvalidCounts")) rfl (xE.glo "InvalidCounts" (by decide +kernel)) rfl) pa_nil))) (pa_cons (pe_callB (k_isP K (xE.ec e he) (held List.mem_cons_self)) rfl fr.isinstance_ (by decide +kernel) (pa_cons (pv 0) (pa_cons (pe_glob (v := .ref (He.ga K "InvalidSummary")) rfl (xE.glo "InvalidSummary" (by decide +kernel)) rfl) pa_nil))) (pa_cons (pe_callB (k_isP K (xE.ec e he) (held List.mem_cons_self)) rfl fr.isinstance_ (by decide +kernel) (pa_cons (pv 0) (pa_cons (pe_glob (v := .ref (He.ga K "InvalidOrder")) rfl (xE.glo "InvalidOrder" (by decide +kernel)) rfl) pa_nil))) pa_nil))))))
      (pss_cons (ps_set (i := 1) nd rfl (Or.inl rfl) (pe_op op_cat (pv 1) (pe_lst (pa_cons (pe_callB (k_isP K (xE.ec e he) (held List.mem_cons_self)) rfl fr.isinstance_ (by decide +kernel) (pa_cons (pv 0) (pa_cons (pe_glob (v := .ref (He.ga K "InvalidPlan")) rfl (xE.glo "InvalidPlan" (by decide +kernel)) rfl) pa_nil))) (pa_cons (pe_callB (k_isP K (xE.ec e he) (held List.mem_cons_self)) rfl fr.isinstance_ (by decide +kernel) (pa_cons (pv 0) (pa_cons (pe_glob (v := .ref (He.ga K "InvalidText")) rfl (xE.glo "InvalidText" (by decide +kernel)) rfl) pa_nil))) (pa_cons (pe_callB (k_isP K (xE.ec e he) (held List.mem_cons_self)) rfl fr.isinstance_ (by decide +kernel) (pa_cons (pv 0) (pa_cons (pe_glob (v := .ref (He.ga K "InvalidSize")) rfl (xE.glo "InvalidSize" (by decide +kernel)) rfl) pa_nil))) pa_nil))))))
      (pss_cons (ps_set (i := 1) nd rfl (Or.inl rfl) (pe_op op_cat (pv 1) (pe_lst (pa_cons (pe_callB (k_isP K (xE.ec e he) (held List.mem_cons_self)) rfl fr.isinstance_ (by decide +kernel) (pa_cons (pv 0) (pa_cons (pe_glob (v := .ref (He.ga K "InvalidNumber")) rfl (xE.glo "InvalidNumber" (by decide +kernel)) rfl) pa_nil))) (pa_cons (pe_callB (k_isP K (xE.ec e he) (held List.mem_cons_self)) rfl fr.isinstance_ (by decide +kernel) (pa_cons (pv 0) (pa_cons (pe_glob (v := .ref (He.ga K "InvalidSlots")) rfl (xE.glo "InvalidSlots" (by decide +kernel)) rfl) pa_nil))) (pa_cons (pe_callB (k_isP K (xE.ec e he) (held List.mem_cons_self)) rfl fr.isinstance_ (by decide +kernel) (pa_cons (pv 0) (pa_cons (pe_glob (v := .ref (He.ga K "InvalidIndex")) rfl (xE.glo "InvalidIndex" (by decide +kernel)) rfl) pa_nil))) pa_nil))))))
      (pss_cons (ps_set (i := 1) nd rfl (Or.inl rfl) (pe_op op_cat (pv 1) (pe_lst (pa_cons (pe_callB (k_isP K (xE.ec e he) (held List.mem_cons_self)) rfl fr.isinstance_ (by decide +kernel) (pa_cons (pv 0) (pa_cons (pe_glob (v := .ref (He.ga K "InvalidAction")) rfl (xE.glo "InvalidAction" (by decide +kernel)) rfl) pa_nil))) (pa_cons (pe_callB (k_isP K (xE.ec e he) (held List.mem_cons_self)) rfl fr.isinstance_ (by decide +kernel) (pa_cons (pv 0) (pa_cons (pe_glob (v := .ref (He.ga K "InvalidLine")) rfl (xE.glo "InvalidLine" (by decide +kernel)) rfl) pa_nil))) (pa_cons (pe_callB (k_isP K (xE.ec e he) (held List.mem_cons_self)) rfl fr.isinstance_ (by decide +kernel) (pa_cons (pv 0) (pa_cons (pe_glob (v := .ref (He.ga K "NotASummary")) rfl (xE.glo "NotASummary" (by decide +kernel)) rfl) pa_nil))) pa_nil))))))
      (pss_cons (ps_set (i := 1) nd rfl (Or.inl rfl) (pe_op op_cat (pv 1) (pe_lst (pa_cons (pe_callB (k_isP K (xE.ec e he) (held List.mem_cons_self)) rfl fr.isinstance_ (by decide +kernel) (pa_cons (pv 0) (pa_cons (pe_glob (v := .ref (He.ga K "CapacitiesDiffer")) rfl (xE.glo "CapacitiesDiffer" (by decide +kernel)) rfl) pa_nil))) (pa_cons (pe_callB (k_isP K (xE.ec e he) (held List.mem_cons_self)) rfl fr.isinstance_ (by decide +kernel) (pa_cons (pv 0) (pa_cons (pe_glob (v := .ref (He.ga K "Busy")) rfl (xE.glo "Busy" (by decide +kernel)) rfl) pa_nil))) (pa_cons (pe_callB (k_isP K (xE.ec e he) (held List.mem_cons_self)) rfl fr.isinstance_ (by decide +kernel) (pa_cons (pv 0) (pa_cons (pe_glob (v := .ref (He.ga K "NothingToUndo")) rfl (xE.glo "NothingToUndo" (by decide +kernel)) rfl) pa_nil))) pa_nil))))))
      (pss_cons (ps_set (i := 1) nd rfl (Or.inl rfl) (pe_op op_cat (pv 1) (pe_lst (pa_cons (pe_callB (k_isP K (xE.ec e he) (held List.mem_cons_self)) rfl fr.isinstance_ (by decide +kernel) (pa_cons (pv 0) (pa_cons (pe_glob (v := .ref (He.ga K "TooManyNames")) rfl (xE.glo "TooManyNames" (by decide +kernel)) rfl) pa_nil))) (pa_cons (pe_callB (k_isP K (xE.ec e he) (held List.mem_cons_self)) rfl fr.isinstance_ (by decide +kernel) (pa_cons (pv 0) (pa_cons (pe_glob (v := .ref (He.ga K "TooManyActions")) rfl (xE.glo "TooManyActions" (by decide +kernel)) rfl) pa_nil))) pa_nil)))))
      (pss_cons (ps_set (i := 2) nd rfl (Or.inl rfl) (pe_lst (pa_cons (pe_callB (k_isP K (xE.ec e he) (held List.mem_cons_self)) rfl fr.isinstance_ (by decide +kernel) (pa_cons (pv 0) (pa_cons (pe_glob (v := .ref (He.ga K "TallyError")) rfl (xE.glo "TallyError" (by decide +kernel)) rfl) pa_nil))) (pa_cons (pe_callB (k_isP K (xE.ec e he) (held List.mem_cons_self)) rfl fr.isinstance_ (by decide +kernel) (pa_cons (pv 0) (pa_cons (pe_glob (v := .ref (He.ga K "StateError")) rfl (xE.glo "StateError" (by decide +kernel)) rfl) pa_nil))) (pa_cons (pe_callB (k_isP K (xE.ec e he) (held List.mem_cons_self)) rfl fr.isinstance_ (by decide +kernel) (pa_cons (pv 0) (pa_cons (pe_glob (v := .ref (He.ga K "SizeError")) rfl (xE.glo "SizeError" (by decide +kernel)) rfl) pa_nil))) pa_nil)))))
      (pss_cons (ps_set (i := 3) nd rfl (Or.inl rfl) (pe_lst (pa_cons (pe_callB (k_isP K (xE.ec e he) (held List.mem_cons_self)) rfl fr.isinstance_ (by decide +kernel) (pa_cons (pv 0) (pa_cons (pe_bltn (v := .ty "ValueError") rfl xE.free.1 boot_ValueError rfl) pa_nil))) (pa_cons (pe_callB (k_isP K (xE.ec e he) (held List.mem_cons_self)) rfl fr.isinstance_ (by decide +kernel) (pa_cons (pv 0) (pa_cons (pe_bltn (v := .ty "LookupError") rfl xE.free.2.1 boot_LookupError rfl) pa_nil))) (pa_cons (pe_callB (k_isP K (xE.ec e he) (held List.mem_cons_self)) rfl fr.isinstance_ (by decide +kernel) (pa_cons (pv 0) (pa_cons (pe_bltn (v := .ty "ArithmeticError") rfl xE.free.2.2 boot_ArithmeticError rfl) pa_nil))) pa_nil)))))
      (pss_cons (ps_if (pt_cmpR op_ne (k_bm K PySem.F.plainAttrs_list PySem.F.slot_list_count PySem.F.type_list_count (k_countF K) (pv 1) (pa_cons pe_bl pa_nil)) pe_int (nomark _)) (pss_one (ps_ret pe_str)) pss_nil)
      (pss_cons (ps_set (i := 4) nd rfl (Or.inl rfl) (k_bm K PySem.F.plainAttrs_list PySem.F.slot_list_index PySem.F.type_list_index (k_index K) (pv 1) (pa_cons pe_bl pa_nil)))
      (pss_cons (ps_if (PW.pt (pw_or (pt_cmpR (k_neL K (u66H hr)) (pv 2) (pe_lst (pa_cons (pe_cmpR op_lt (pv 4) pe_int (nomark _)) (pa_cons (pe_chain op_lt op_lt pe_int (pv 4) pe_int) (pa_cons (pe_cmpR op_gt (pv 4) pe_int (nomark _)) pa_nil)))) (nomark _)) (pw_or1 (pt_cmpR (k_neL K (u66H hr)) (pv 3) (pv 2) (nomark _))))) (pss_one (ps_ret pe_str)) pss_nil)
      (pss_cons (ps_set (i := 5) nd rfl (Or.inl rfl) pe_str)
      (pss_cons (ps_set (i := 5) nd rfl (Or.inl rfl) (pe_op o_addS (pv 5) pe_str))
      (pss_one (ps_ret (pe_ix (k_ixL K) (pe_split (pv 5) pe_str) (pv 4) (fun _ _ => rfl)))))))))))))))))), ?_⟩
    try dsimp only [L2H.cxH, cxOf]
    tm_at "wk"
    rename_i q0 G0 s0 hq0
    replace hh := held_same s0 hh
    tm_at "wk"
    rename_i q1 G1 s1 hq1
    refine w_catG (by first | exact s1 _ _ hq0) (by assumption) (sz_le (by simp)) fun r1 F1 u1 hr1 => ?_
    replace hh := held_same (s1.trans u1) hh
    tm_at "wk"
    rename_i q2 G2 s2 hq2
    refine w_catG (by first | exact s2 _ _ hr1) (by assumption) (sz_le (by simp)) fun r2 F2 u2 hr2 => ?_
    replace hh := held_same (s2.trans u2) hh
    tm_at "wk"
    rename_i q3 G3 s3 hq3
    refine w_catG (by first | exact s3 _ _ hr2) (by assumption) (sz_le (by simp)) fun r3 F3 u3 hr3 => ?_
    replace hh := held_same (s3.trans u3) hh
    tm_at "wk"
    rename_i q4 G4 s4 hq4
    refine w_catG (by first | exact s4 _ _ hr3) (by assumption) (sz_le (by simp)) fun r4 F4 u4 hr4 => ?_
    replace hh := held_same (s4.trans u4) hh
    tm_at "wk"
    rename_i q5 G5 s5 hq5
    refine w_catG (by first | exact s5 _ _ hr4) (by assumption) (sz_le (by simp)) fun r5 F5 u5 hr5 => ?_
    replace hh := held_same (s5.trans u5) hh
    tm_at "wk"
    rename_i q6 G6 s6 hq6
    refine w_catG (by first | exact s6 _ _ hr5) (by assumption) (sz_le (by simp)) fun r6 F6 u6 hr6 => ?_
    replace hh := held_same (s6.trans u6) hh
    tm_at "wk"
    rename_i qb Gb sb hqb
    replace hh := held_same sb hh
    refine w_isPb xE he hh (xE.kb e he).1 ?_
    tm_at "wk"
    refine w_isPb xE he hh (xE.kb e he).2.1 ?_
    tm_at "wk"
    refine w_isPb xE he hh (xE.kb e he).2.2 ?_
    tm_at "wk"
    rename_i qo Go so hqo
    have hK : Go r6 = some (.lst (exBls e)) := (sb.trans so) _ _ hr6
    have hB : Go qb = some (.lst [.bl (exIs e "TallyError"), .bl (exIs e "StateError"), .bl (exIs e "SizeError")]) := so _ _ hqb
    obtain ⟨b1, b2, b3⟩ := ex_bases e he
    obtain ⟨hat, hhit⟩ := ex_hit e he
    have hmiss := ex_miss e he
    refine w_tyL hK ?_
    tm_at "wp"
    refine ⟨r6, exBls e, .bl true, rfl, rfl, SqL.of hK, rfl, ex_flat e, ?_⟩
    rw [ex_cnt e he]
    tm_at "wp"
    refine w_iten (fun z => absurd rfl z) (fun _ => ?_)
    tm_at "wp"
    refine w_tyL hK ?_
    tm_at "wp"
    refine ⟨r6, exBls e, .bl true, exAt e, .bl true, rfl, rfl, SqL.of hK, rfl, ex_flat e, ?_, rfl, ?_, ?_⟩
    · show (exLeaf.map fun C => V.bl (exIs e C))[exAt e]? = some (.bl true)
      rw [show (exLeaf.map fun C => V.bl (exIs e C)) = (exLeaf.map (exIs e)).map V.bl by rw [List.map_map]; rfl, List.getElem?_map, hhit]
      rfl
    · intro m z hm hz
      have hz : (exLeaf.map fun C => V.bl (exIs e C))[m]? = some z := hz
      rw [show (exLeaf.map fun C => V.bl (exIs e C)) = (exLeaf.map (exIs e)).map V.bl by rw [List.map_map]; rfl, List.getElem?_map] at hz
      cases hb : (exLeaf.map (exIs e))[m]? with
      | none => rw [hb] at hz; cases hz
      | some b =>
        rw [hb] at hz
        cases hz
        have hin : b ∈ (exLeaf.map (exIs e)).take (exAt e) := List.mem_of_getElem? (by rw [List.getElem?_take_of_lt hm]; exact hb)
        have := List.all_eq_true.mp hmiss b hin
        cases b
        · rfl
        · cases this
    tm_at "wp"
    refine w_ited (fun z => ?_) (fun z => ?_)
    · tm_at "wk"
      rename_i qn Gn sn hqn
      refine w_neF (SqL.of (sn _ _ hB)) (SqL.of hqn) (by rw [b1, b2, b3, decide_eq_true z, Bool.true_and]) rfl ?_
      tm_at "wk"
      refine w_neF (SqL.of (sn _ _ hqo)) (SqL.of (sn _ _ hB)) rfl rfl ?_
      tm_at "wk"
      refine w_addS (by decide +kernel) ?_
      rw [show (Str.ofString "capacity name times counts summary order plan text size number slots index action line" ++ Str.ofString " notsummary differ busy undo names actions" : Str) = exWords by decide +kernel]
      tm_at "wk"
      refine ⟨_, _, rfl, rfl, by decide +kernel, by decide +kernel, ?_⟩
      intro qw hqw
      tm_at "wp"
      refine w_ixL (v := .str e.2.2) (SqL.of upd_same) (atI_nat (by rw [List.getElem?_map, ex_word e he]; rfl)) ?_
      exact k _ (by tm_at "same")
    · tm_at "wk"
      rename_i qn Gn sn hqn
      refine w_neF (SqL.of (sn _ _ hB)) (SqL.of hqn) (by rw [b1, b2, b3, decide_eq_false z, Bool.false_and]) rfl ?_
      tm_at "wk"
      refine w_neF (SqL.of (sn _ _ hqo)) (SqL.of (sn _ _ hB)) rfl rfl ?_
      tm_at "wk"
      refine w_addS (by decide +kernel) ?_
      rw [show (Str.ofString "capacity name times counts summary order plan text size number slots index action line" ++ Str.ofString " notsummary differ busy undo names actions" : Str) = exWords by decide +kernel]
      tm_at "wk"
      refine ⟨_, _, rfl, rfl, by decide +kernel, by decide +kernel, ?_⟩
      intro qw hqw
      tm_at "wp"
      refine w_ixL (v := .str e.2.2) (SqL.of upd_same) (atI_nat (by rw [List.getElem?_map, ex_word e he]; rfl)) ?_
      exact k _ (by tm_at "same")
theorem ok__law_fields {P : Program} {w : World} {K : PySem.W.Frag} {mg : Str → Option Value} {base : Heap} (fr : Fre mg) (xE : ExF K mg) (D : Dfd K mg "_law_fields" s__law_fields)
    (h__law_other_fields : HasP P w K mg base 1 "_law_other_fields" s__law_other_fields ["_law_e"] (sp__law_other_fields K)) : HasP P w K mg base 2 "_law_fields" s__law_fields ["_law_e"] (sp__law_fields K) := by
  refine D.hasP sc__law_fields (fun p vs H Q E h => ?_) (fun cdv A outer s H vs Q E p hr hg h => ?_)
  · obtain ⟨e, y, dd, rfl, _⟩ := h; rfl
  · obtain ⟨e, y, dd, rfl, he, hh, k⟩ := h
    have nd := sc__law_fields.nd
    have held : ∀ {X : Cx}, p ∈ X.pn → Held X p (He.ga K e.1) dd := fun hp => ⟨hp, hh.1, hh.2.1⟩
    refine ⟨_, (pss_cons (ps_if (pt_val (pe_callB (k_isPT K (xE.ec e he) (held List.mem_cons_self)) rfl fr.isinstance_ (by decide +kernel) (pa_cons (pv 0) (pa_cons (pe_tup (pa_cons (pe_glob (v := .ref (He.ga K "InvalidCounts")) rfl (xE.glo "InvalidCounts" (by decide +kernel)) rfl) (pa_cons (pe_glob (v := .ref (He.ga K "InvalidSummary")) rfl (xE.glo "InvalidSummary" (by decide +kernel)) rfl) (pa_cons (pe_glob (v := .ref (He.ga K "InvalidOrder")) rfl (xE.glo "InvalidOrder" (by decide +kernel)) rfl) (pa_cons (pe_glob (v := .ref (He.ga K "InvalidPlan")) rfl (xE.glo "InvalidPlan" (by decide +kernel)) rfl) pa_nil))))) pa_nil)))) (pss_one (ps_ret (pe_lst (pa_cons (k_xp K (TP.ExcC.xfo (xE.ec e he)) (xE.na e he "index" (by decide +kernel)) (held List.mem_cons_self) (pv 0)) pa_nil)))) pss_nil)
      (pss_cons (ps_if (pt_val (pe_callB (k_isPT K (xE.ec e he) (held List.mem_cons_self)) rfl fr.isinstance_ (by decide +kernel) (pa_cons (pv 0) (pa_cons (pe_tup (pa_cons (pe_glob (v := .ref (He.ga K "InvalidIndex")) rfl (xE.glo "InvalidIndex" (by decide +kernel)) rfl) (pa_cons (pe_glob (v := .ref (He.ga K "InvalidAction")) rfl (xE.glo "InvalidAction" (by decide +kernel)) rfl) pa_nil))) pa_nil)))) (pss_one (ps_ret (pe_lst (pa_cons (k_xp K (TP.ExcC.xfo (xE.ec e he)) (xE.na e he "index" (by decide +kernel)) (held List.mem_cons_self) (pv 0)) pa_nil)))) pss_nil)
      (pss_cons (ps_if (pt_val (pe_callB (k_isP K (xE.ec e he) (held List.mem_cons_self)) rfl fr.isinstance_ (by decide +kernel) (pa_cons (pv 0) (pa_cons (pe_glob (v := .ref (He.ga K "NotASummary")) rfl (xE.glo "NotASummary" (by decide +kernel)) rfl) pa_nil)))) (pss_one (ps_ret (pe_lst (pa_cons (k_xp K (TP.ExcC.xfo (xE.ec e he)) (xE.na e he "value" (by decide +kernel)) (held List.mem_cons_self) (pv 0)) pa_nil)))) pss_nil)
      (pss_cons (ps_if (pt_val (pe_callB (k_isPT K (xE.ec e he) (held List.mem_cons_self)) rfl fr.isinstance_ (by decide +kernel) (pa_cons (pv 0) (pa_cons (pe_tup (pa_cons (pe_glob (v := .ref (He.ga K "InvalidCapacity")) rfl (xE.glo "InvalidCapacity" (by decide +kernel)) rfl) (pa_cons (pe_glob (v := .ref (He.ga K "CapacitiesDiffer")) rfl (xE.glo "CapacitiesDiffer" (by decide +kernel)) rfl) pa_nil))) pa_nil)))) (pss_one (ps_ret (pe_lst (pa_cons (k_xp K (TP.ExcC.xfo (xE.ec e he)) (xE.na e he "capacity" (by decide +kernel)) (held List.mem_cons_self) (pv 0)) pa_nil)))) pss_nil)
      (pss_cons (ps_if (pt_val (pe_callB (k_isPT K (xE.ec e he) (held List.mem_cons_self)) rfl fr.isinstance_ (by decide +kernel) (pa_cons (pv 0) (pa_cons (pe_tup (pa_cons (pe_glob (v := .ref (He.ga K "TooManyNames")) rfl (xE.glo "TooManyNames" (by decide +kernel)) rfl) (pa_cons (pe_glob (v := .ref (He.ga K "TooManyActions")) rfl (xE.glo "TooManyActions" (by decide +kernel)) rfl) pa_nil))) pa_nil)))) (pss_one (ps_ret (pe_lst (pa_cons (k_xp K (TP.ExcC.xfo (xE.ec e he)) (xE.na e he "found" (by decide +kernel)) (held List.mem_cons_self) (pv 0)) pa_nil)))) pss_nil)
      (pss_one (ps_ret (pe_fnP (p := p) h__law_other_fields pb__law_other_fields List.mem_cons_self (L2H.RoomH.mono hr (by decide)) hg rfl (pa_cons (pv 0) pa_nil))))))))), ?_⟩
    try dsimp only [L2H.cxH, cxOf]
    have fin : ∀ (f : Str), e.2.1 = f → ([(e.2.1, y)] : List (Str × V)).lookup f = some y := fun f h => by rw [h]; exact lk_self _ _
    tm_at "wp"
    rename_i t1 ht1
    have hh1 := held_same (same_new (u := .tup [.ref (He.ga K "InvalidCounts"), .ref (He.ga K "InvalidSummary"), .ref (He.ga K "InvalidOrder"), .ref (He.ga K "InvalidPlan")]) ht1) hh
    refine w_isPT xE he hh1 (cs := ["InvalidCounts", "InvalidSummary", "InvalidOrder", "InvalidPlan"]) upd_same (by decide +kernel) ?_
    tm_at "wp"
    refine w_iteb (fun hb => ?_) (fun h1 => ?_)
    · tm_at "wp"
      obtain ⟨d9, rfl, hd9⟩ := hh1.some (ex_first e he hb) (by decide +kernel)
      refine w_xp (w_var (by with_unfolding_all exact rfl) ⟨rfl, d9, _, y, rfl, hd9, fin "index" (ex_first e he hb), ?_⟩)
      tm_at "wp"
      rename_i l hl
      exact k l _ (by tm_at "same") upd_same
    tm_at "wp"
    rename_i t2 ht2
    have hh2 := held_same (same_new (u := .tup [.ref (He.ga K "InvalidIndex"), .ref (He.ga K "InvalidAction")]) ht2) hh1
    refine w_isPT xE he hh2 (cs := ["InvalidIndex", "InvalidAction"]) upd_same (by decide +kernel) ?_
    tm_at "wp"
    refine w_iteb (fun hb => ?_) (fun h2 => ?_)
    · tm_at "wp"
      obtain ⟨d9, rfl, hd9⟩ := hh2.some (ex_second e he hb) (by decide +kernel)
      refine w_xp (w_var (by with_unfolding_all exact rfl) ⟨rfl, d9, _, y, rfl, hd9, fin "index" (ex_second e he hb), ?_⟩)
      tm_at "wp"
      rename_i l hl
      exact k l _ (by tm_at "same") upd_same
    tm_at "wp"
    refine w_isP xE he hh2 (by decide +kernel) ?_
    tm_at "wp"
    refine w_iteb (fun hb => ?_) (fun h3 => ?_)
    · tm_at "wp"
      obtain ⟨d9, rfl, hd9⟩ := hh2.some (ex_fld e he ("NotASummary", "value", "notsummary") (by decide +kernel) hb) (by decide +kernel)
      refine w_xp (w_var (by with_unfolding_all exact rfl) ⟨rfl, d9, _, y, rfl, hd9, fin "value" (ex_fld e he ("NotASummary", "value", "notsummary") (by decide +kernel) hb), ?_⟩)
      tm_at "wp"
      rename_i l hl
      exact k l _ (by tm_at "same") upd_same
    tm_at "wp"
    rename_i t4 ht4
    have hh4 := held_same (same_new (u := .tup [.ref (He.ga K "InvalidCapacity"), .ref (He.ga K "CapacitiesDiffer")]) ht4) hh2
    refine w_isPT xE he hh4 (cs := ["InvalidCapacity", "CapacitiesDiffer"]) upd_same (by decide +kernel) ?_
    tm_at "wp"
    refine w_iteb (fun hb => ?_) (fun h4 => ?_)
    · tm_at "wp"
      obtain ⟨d9, rfl, hd9⟩ := hh4.some (ex_cap e he hb) (by decide +kernel)
      refine w_xp (w_var (by with_unfolding_all exact rfl) ⟨rfl, d9, _, y, rfl, hd9, fin "capacity" (ex_cap e he hb), ?_⟩)
      tm_at "wp"
      rename_i l hl
      exact k l _ (by tm_at "same") upd_same
    tm_at "wp"
    rename_i t5 ht5
    have hh5 := held_same (same_new (u := .tup [.ref (He.ga K "TooManyNames"), .ref (He.ga K "TooManyActions")]) ht5) hh4
    refine w_isPT xE he hh5 (cs := ["TooManyNames", "TooManyActions"]) upd_same (by decide +kernel) ?_
    tm_at "wp"
    refine w_iteb (fun hb => ?_) (fun h5 => ?_)
    · tm_at "wp"
      obtain ⟨d9, rfl, hd9⟩ := hh5.some (ex_many e he hb) (by decide +kernel)
      refine w_xp (w_var (by with_unfolding_all exact rfl) ⟨rfl, d9, _, y, rfl, hd9, fin "found" (ex_many e he hb), ?_⟩)
      tm_at "wp"
      rename_i l hl
      exact k l _ (by tm_at "same") upd_same
    tm_at "wp"
    refine ⟨e, y, dd, rfl, he, hh5, ex_rest e he h1 h2 h3 h4 h5, fun l H' s hl => ?_⟩
    exact k l _ (by tm_at "same") hl
theorem ok__law_other_fields {P : Program} {w : World} {K : PySem.W.Frag} {mg : Str → Option Value} {base : Heap} (fr : Fre mg) (xE : ExF K mg) (D : Dfd K mg "_law_other_fields" s__law_other_fields) : HasP P w K mg base 1 "_law_other_fields" s__law_other_fields ["_law_e"] (sp__law_other_fields K) := by
  refine D.hasP sc__law_other_fields (fun p vs H Q E h => ?_) (fun cdv A outer s H vs Q E p hr hg h => ?_)
  · obtain ⟨e, y, dd, rfl, _⟩ := h; rfl
  · obtain ⟨e, y, dd, rfl, he, hh, k⟩ := h
    have nd := sc__law_other_fields.nd
    have held : ∀ {X : Cx}, p ∈ X.pn → Held X p (He.ga K e.1) dd := fun hp => ⟨hp, hh.1, hh.2.1⟩
    refine ⟨_, (pss_cons (ps_if (pt_val (pe_callB (k_isP K (xE.ec e he) (held List.mem_cons_self)) rfl fr.isinstance_ (by decide +kernel) (pa_cons (pv 0) (pa_cons (pe_glob (v := .ref (He.ga K "InvalidName")) rfl (xE.glo "InvalidName" (by decide +kernel)) rfl) pa_nil)))) (pss_one (ps_ret (pe_lst (pa_cons (k_xp K (TP.ExcC.xfo (xE.ec e he)) (xE.na e he "name" (by decide +kernel)) (held List.mem_cons_self) (pv 0)) pa_nil)))) pss_nil)
      (pss_cons (ps_if (pt_val (pe_callB (k_isP K (xE.ec e he) (held List.mem_cons_self)) rfl fr.isinstance_ (by decide +kernel) (pa_cons (pv 0) (pa_cons (pe_glob (v := .ref (He.ga K "InvalidTimes")) rfl (xE.glo "InvalidTimes" (by decide +kernel)) rfl) pa_nil)))) (pss_one (ps_ret (pe_lst (pa_cons (k_xp K (TP.ExcC.xfo (xE.ec e he)) (xE.na e he "times" (by decide +kernel)) (held List.mem_cons_self) (pv 0)) pa_nil)))) pss_nil)
      (pss_cons (ps_if (pt_val (pe_callB (k_isP K (xE.ec e he) (held List.mem_cons_self)) rfl fr.isinstance_ (by decide +kernel) (pa_cons (pv 0) (pa_cons (pe_glob (v := .ref (He.ga K "InvalidText")) rfl (xE.glo "InvalidText" (by decide +kernel)) rfl) pa_nil)))) (pss_one (ps_ret (pe_lst (pa_cons (k_xp K (TP.ExcC.xfo (xE.ec e he)) (xE.na e he "text" (by decide +kernel)) (held List.mem_cons_self) (pv 0)) pa_nil)))) pss_nil)
      (pss_cons (ps_if (pt_val (pe_callB (k_isP K (xE.ec e he) (held List.mem_cons_self)) rfl fr.isinstance_ (by decide +kernel) (pa_cons (pv 0) (pa_cons (pe_glob (v := .ref (He.ga K "InvalidNumber")) rfl (xE.glo "InvalidNumber" (by decide +kernel)) rfl) pa_nil)))) (pss_one (ps_ret (pe_lst (pa_cons (k_xp K (TP.ExcC.xfo (xE.ec e he)) (xE.na e he "number" (by decide +kernel)) (held List.mem_cons_self) (pv 0)) pa_nil)))) pss_nil)
      (pss_cons (ps_if (pt_val (pe_callB (k_isP K (xE.ec e he) (held List.mem_cons_self)) rfl fr.isinstance_ (by decide +kernel) (pa_cons (pv 0) (pa_cons (pe_glob (v := .ref (He.ga K "InvalidSlots")) rfl (xE.glo "InvalidSlots" (by decide +kernel)) rfl) pa_nil)))) (pss_one (ps_ret (pe_lst (pa_cons (k_xp K (TP.ExcC.xfo (xE.ec e he)) (xE.na e he "slots" (by decide +kernel)) (held List.mem_cons_self) (pv 0)) pa_nil)))) pss_nil)
      (pss_cons (ps_if (pt_val (pe_callB (k_isP K (xE.ec e he) (held List.mem_cons_self)) rfl fr.isinstance_ (by decide +kernel) (pa_cons (pv 0) (pa_cons (pe_glob (v := .ref (He.ga K "InvalidSize")) rfl (xE.glo "InvalidSize" (by decide +kernel)) rfl) pa_nil)))) (pss_one (ps_ret (pe_lst (pa_cons (k_xp K (TP.ExcC.xfo (xE.ec e he)) (xE.na e he "size" (by decide +kernel)) (held List.mem_cons_self) (pv 0)) pa_nil)))) pss_nil)
      (pss_one (ps_ret (pe_ifExp (pt_val (pe_callB (k_isP K (xE.ec e he) (held List.mem_cons_self)) rfl fr.isinstance_ (by decide +kernel) (pa_cons (pv 0) (pa_cons (pe_glob (v := .ref (He.ga K "InvalidLine")) rfl (xE.glo "InvalidLine" (by decide +kernel)) rfl) pa_nil)))) (pe_lst (pa_cons (k_xp K (TP.ExcC.xfo (xE.ec e he)) (xE.na e he "line" (by decide +kernel)) (held List.mem_cons_self) (pv 0)) pa_nil)) (pe_lst pa_nil)))))))))), ?_⟩
    try dsimp only [L2H.cxH, cxOf]
    obtain ⟨ho, k⟩ := k
    have fin : ∀ (c : ExE), c ∈ exTabA → exIs e c.1 = true → ([(e.2.1, y)] : List (Str × V)).lookup c.2.1 = some y := fun c hc hb => by rw [ex_fld e he c hc hb]; exact lk_self _ _
    tm_at "wp"
    refine w_isP xE he hh (by decide +kernel) ?_
    tm_at "wp"
    refine w_iteb (fun hb => ?_) (fun h1 => ?_)
    · tm_at "wp"
      obtain ⟨d9, rfl, hd9⟩ := hh.some (ex_fld e he ("InvalidName", "name", "name") (by decide +kernel) hb) (by decide +kernel)
      refine w_xp (w_var (by with_unfolding_all exact rfl) ⟨rfl, d9, _, y, rfl, hd9, fin ("InvalidName", "name", "name") (by decide +kernel) hb, ?_⟩)
      tm_at "wp"
      rename_i l hl
      exact k l _ (same_new hl) upd_same
    tm_at "wp"
    refine w_isP xE he hh (by decide +kernel) ?_
    tm_at "wp"
    refine w_iteb (fun hb => ?_) (fun h2 => ?_)
    · tm_at "wp"
      obtain ⟨d9, rfl, hd9⟩ := hh.some (ex_fld e he ("InvalidTimes", "times", "times") (by decide +kernel) hb) (by decide +kernel)
      refine w_xp (w_var (by with_unfolding_all exact rfl) ⟨rfl, d9, _, y, rfl, hd9, fin ("InvalidTimes", "times", "times") (by decide +kernel) hb, ?_⟩)
      tm_at "wp"
      rename_i l hl
      exact k l _ (same_new hl) upd_same
    tm_at "wp"
    refine w_isP xE he hh (by decide +kernel) ?_
    tm_at "wp"
    refine w_iteb (fun hb => ?_) (fun h3 => ?_)
    · tm_at "wp"
      obtain ⟨d9, rfl, hd9⟩ := hh.some (ex_fld e he ("InvalidText", "text", "text") (by decide +kernel) hb) (by decide +kernel)
      refine w_xp (w_var (by with_unfolding_all exact rfl) ⟨rfl, d9, _, y, rfl, hd9, fin ("InvalidText", "text", "text") (by decide +kernel) hb, ?_⟩)
      tm_at "wp"
      rename_i l hl
      exact k l _ (same_new hl) upd_same
    tm_at "wp"
    refine w_isP xE he hh (by decide +kernel) ?_
    tm_at "wp"
    refine w_iteb (fun hb => ?_) (fun h4 => ?_)
    · tm_at "wp"
      obtain ⟨d9, rfl, hd9⟩ := hh.some (ex_fld e he ("InvalidNumber", "number", "number") (by decide +kernel) hb) (by decide +kernel)
      refine w_xp (w_var (by with_unfolding_all exact rfl) ⟨rfl, d9, _, y, rfl, hd9, fin ("InvalidNumber", "number", "number") (by decide +kernel) hb, ?_⟩)
      tm_at "wp"
      rename_i l hl
      exact k l _ (same_new hl) upd_same
    tm_at "wp"
    refine w_isP xE he hh (by decide +kernel) ?_
    tm_at "wp"
    refine w_iteb (fun hb => ?_) (fun h5 => ?_)
    · tm_at "wp"
      obtain ⟨d9, rfl, hd9⟩ := hh.some (ex_fld e he ("InvalidSlots", "slots", "slots") (by decide +kernel) hb) (by decide +kernel)
      refine w_xp (w_var (by with_unfolding_all exact rfl) ⟨rfl, d9, _, y, rfl, hd9, fin ("InvalidSlots", "slots", "slots") (by decide +kernel) hb, ?_⟩)
      tm_at "wp"
      rename_i l hl
      exact k l _ (same_new hl) upd_same
    tm_at "wp"
    refine w_isP xE he hh (by decide +kernel) ?_
    tm_at "wp"
    refine w_iteb (fun hb => ?_) (fun h6 => ?_)
    · tm_at "wp"
      obtain ⟨d9, rfl, hd9⟩ := hh.some (ex_fld e he ("InvalidSize", "size", "size") (by decide +kernel) hb) (by decide +kernel)
      refine w_xp (w_var (by with_unfolding_all exact rfl) ⟨rfl, d9, _, y, rfl, hd9, fin ("InvalidSize", "size", "size") (by decide +kernel) hb, ?_⟩)
      tm_at "wp"
      rename_i l hl
      exact k l _ (same_new hl) upd_same
    tm_at "wp"
    refine w_isP xE he hh (by decide +kernel) ?_
    tm_at "wp"
    rcases ho with ho | ho
    · have hb := ex_oth e he ho h1 h2 h3 h4 h5 h6
      rw [hb]
      refine w_iteT ?_
      tm_at "wp"
      obtain ⟨d9, rfl, hd9⟩ := hh.some (ex_fld e he ("InvalidLine", "line", "line") (by decide +kernel) hb) (by decide +kernel)
      refine w_xp (w_var (by with_unfolding_all exact rfl) ⟨rfl, d9, _, y, rfl, hd9, fin ("InvalidLine", "line", "line") (by decide +kernel) hb, ?_⟩)
      tm_at "wp"
      rename_i l hl
      exact k l _ (same_new hl) upd_same
    · rw [ex_none e he ho]
      refine w_iteF ?_
      tm_at "wp"
      rename_i l hl
      cases dd with
      | none => exact k l _ (same_new hl) upd_same
      | some d => exact absurd ho hh.2.2.1
theorem ok__law_pair {P : Program} {w : World} {K : PySem.W.Frag} {mg : Str → Option Value} {base : Heap} (fr : Fre mg) (D : Dfd K mg "_law_pair" s__law_pair) : Has P w K mg base CX0 1 "_law_pair" s__law_pair ["_law_thing_here"] (sp__law_pair K) := by
  refine D.has sc__law_pair (fun vs H Q E h => ?_) (fun cdv A outer s H vs Q E hr hg h => ?_)
  · obtain ⟨v, d, rfl, _⟩ := h; rfl
  · obtain ⟨v, d, rfl, hd, hz, k⟩ := h
    have nd := sc__law_pair.nd
    refine ⟨_, PSs.nox (pss_cons (ps_if (PW.pt (pw_or (pt_not (pt_val (pe_callB (k_isi K) rfl fr.isinstance_ (by decide +kernel) (pa_cons (pv 0) (pa_cons (pe_bltn (v := .ty "tuple") rfl fr.tuple_ boot_tuple rfl) pa_nil))))) (pw_or (pt_cmpR op_ne (pe_callB (k_len K) rfl fr.len_ (by decide +kernel) (pa_cons (pv 0) pa_nil)) pe_int (nomark _)) (pw_or1 (pt_not (pt_val (pe_callB (k_isi K) rfl fr.isinstance_ (by decide +kernel) (pa_cons (pe_ix (k_ixT K) (pv 0) pe_int (fun _ _ => rfl)) (pa_cons (pe_bltn (v := .ty "str") rfl fr.str_ boot_str rfl) pa_nil))))))))) (pss_one (ps_ret pe_bl)) pss_nil)
      (pss_cons (ps_setLc (i := 1) (own := [("_law_letter", 2)]) (g := gName 2) (tt := tYes) rfl nd rfl rfl (sw_true rfl rfl rfl (by decide +kernel)) (pi_str (pe_ix (k_ixT K) (pv 0) pe_int (fun _ _ => rfl))) (blkOk_by (own := [("_law_letter", 2)]) (N := N__law_pair) (sc := defScope s__law_pair) (by decide +kernel)) (fun _ _ _ _ _ => (pg_name (i := 2) nd rfl (Or.inl rfl))) (fun _ _ _ _ _ => pts_nil) (fun _ _ _ _ _ => (pe_cmpR o_inSign (pv 2) pe_str rfl)))
      (pss_cons (ps_if (PW.pt (pw_or (pt_not (pt_chain op_lt op_lt pe_int (pe_callB (k_len K) rfl fr.len_ (by decide +kernel) (pa_cons (pv 1) pa_nil)) pe_int)) (pw_or (pt_not (pt_val (pe_callB (k_all K rfl) rfl fr.all_ (by decide +kernel) (pa_cons (pv 1) pa_nil)))) (pw_or1 (pt_val (pe_callB (k_isi K) rfl fr.isinstance_ (by decide +kernel) (pa_cons (pe_ix (k_ixT K) (pv 0) pe_int (fun _ _ => rfl)) (pa_cons (pe_bltn (v := .ty "bool") rfl fr.bool_ boot_bool rfl) pa_nil)))))))) (pss_one (ps_ret pe_bl)) pss_nil)
      (pss_one (ps_ret (pe_and (pe_callB (k_isi K) rfl fr.isinstance_ (by decide +kernel) (pa_cons (pe_ix (k_ixT K) (pv 0) pe_int (fun _ _ => rfl)) (pa_cons (pe_bltn (v := .ty "int") rfl fr.int_ boot_int rfl) pa_nil))) (pe_one (pe_cmpR op_gt (pe_ix (k_ixT K) (pv 0) pe_int (fun _ _ => rfl)) pe_int (nomark _))))))))), ?_⟩
    try dsimp only [cxOf]
    tm_at "wp"
    refine w_isiX hd (isi_tup d) ?_
    cases d
    case tuple ds =>
      obtain ⟨a, xs, rfl, hs, hx⟩ := dx_tup_inv hd
      have hl := dxs_len hx
      refine w_bl ?_
      rw [show (!isTupD (.tuple ds)) = false from rfl, if_neg (by decide)]
      tm_at "wp"
      refine w_lenT hs ?_
      tm_at "wp"
      by_cases h1 : ((xs.length : Nat) : Int) = 2
      rotate_left
      · have e : runD (.tuple ds) = false := by
          unfold runD
          split
          · exfalso; rename_i heq; injection heq with heq; subst heq; exact h1 (by rw [hl]; rfl)
          · rfl
        rw [e] at k
        rw [decide_eq_false h1, if_pos (by rfl), if_pos rfl]
        tm_at "wp"
        exact k _ (Same.refl _)
      obtain ⟨d0, d1, rfl⟩ : ∃ d0 d1, ds = [d0, d1] := by
        match ds, (by omega : ds.length = 2) with
        | [d0, d1], _ => exact ⟨d0, d1, rfl⟩
      cases hx with
      | @cons v0 _ _ _ r0 hx =>
      cases hx with
      | @cons v1 _ _ _ r1 hx =>
      cases hx
      have z0 : szD d0 = true := szDs_get (ds := [d0, d1]) (i := 0) (by simpa [szD] using hz) rfl
      have ek : runD (.tuple [d0, d1]) = (nameD d0 && fromD d1 1) := rfl
      rw [decide_eq_true h1, if_neg (by decide)]
      tm_at "wp"
      refine w_ixT hs (v := v0) rfl ?_
      tm_at "wp"
      refine w_isiX r0 (isi_str d0) ?_
      refine w_bl ?_
      by_cases h2 : isStrD d0 = true
      rotate_left
      · have e : nameD d0 = false := by
          cases d0 <;> first | rfl | exact absurd rfl h2
        rw [ek, e] at k
        rw [show isStrD d0 = false by simpa using h2, if_pos (by rfl)]
        tm_at "wp"
        exact k _ (Same.refl _)
      obtain ⟨x, rfl⟩ : ∃ x, d0 = .str x := by
        cases d0 <;> first | exact ⟨_, rfl⟩ | cases h2
      cases dx_str_inv r0
      rw [h2, if_neg (by decide)]
      tm_at "wp"
      have hx : x.length ≤ 100000 := by simpa [szD] using z0
      refine w_ixT hs (v := .str x) rfl ?_
      refine w_onS ?_
      intro D0 hD
      refine lc_map walk_str (n := x.cps.size) (by have : x.length = x.cps.size := rfl; omega) (fun i y => ∃ c, x.cps.toList[i]? = some c ∧ y = .bl (isLet c)) hD (fun _ _ => trivial) ?_ ?_ mono_gname
      · rintro i y H1 H2 hi s ⟨rfl, c, hc, rfl⟩ Qy hq
        refine w_gname ⟨rfl, ?_⟩
        tm_at "wp"
        refine hq _ _ (Same.refl _) ⟨c, by simpa using hc, ?_⟩
        show V.bl (decide (c ∈ letters.cps.toList)) = _
        rw [mem_letters]
      intro acc H1 s1 _ hacc hla hf
      have e : acc = (x.cps.toList.map isLet).map V.bl := by
        rw [List.map_map]
        exact acc_map (by simpa using hla) hf
      rw [e] at hacc
      have hs1 := sqt_same s1 hs
      have r11 := dx_same s1 r1
      have ek2 : ¬ (0 < x.length ∧ x.length < 9) → nameD (.str x) = false := fun h => by
        show isName x = false
        unfold isName
        by_cases y : 0 < x.length
        · rw [decide_eq_false (show ¬ x.length < 9 from fun z => h ⟨y, z⟩)]; simp
        · rw [decide_eq_false y]; simp
      have ell : ((x.cps.toList.map isLet).map V.bl).length = x.length := by
        rw [List.length_map, List.length_map, Array.length_toList]; rfl
      tm_at "wp"
      refine w_lenL (SqL.of hacc) ?_
      rw [ell]
      tm_at "wp"
      by_cases h3 : (0 : Int) < ((x.length : Nat) : Int)
      rotate_left
      · rw [decide_eq_false h3]
        rw [if_neg (by decide)]
        refine w_bl ?_
        rw [if_pos (by rfl), if_pos rfl]
        have e : nameD (.str x) = false := ek2 (by omega)
        rw [ek, e] at k
        tm_at "wp"
        exact k _ s1
      rw [decide_eq_true h3, if_pos rfl]
      tm_at "wp"
      by_cases h4 : ((x.length : Nat) : Int) < 9
      rotate_left
      · rw [decide_eq_false h4]
        rw [if_pos (by rfl), if_pos rfl]
        have e : nameD (.str x) = false := ek2 (by omega)
        rw [ek, e] at k
        tm_at "wp"
        exact k _ s1
      have en : (List.map isLet x.cps.toList).all id = nameD (.str x) := by
        show _ = isName x
        rw [all_map_id]
        unfold isName
        rw [decide_eq_true (show 0 < x.length by omega), decide_eq_true (show x.length < 9 by omega)]
        simp
      rw [decide_eq_true h4, if_neg (by decide)]
      tm_at "wp"
      refine w_all (SqL.of hacc) ?_
      rw [en]
      refine w_bl ?_
      cases hn : nameD (.str x) with
      | false =>
        rw [ek, hn] at k
        rw [if_pos (by rfl), if_pos rfl]
        tm_at "wp"
        exact k _ s1
      | true =>
        rw [ek, hn] at k
        rw [if_neg (by decide)]
        tm_at "wp"
        refine w_ixT hs1 (v := v1) rfl ?_
        tm_at "wp"
        refine w_isiX r11 (isi_bool d1) ?_
        refine w_bl ?_
        cases d1
        case bool b =>
          rw [if_pos (by rfl)]
          tm_at "wp"
          exact k _ s1
        case int i =>
          cases dx_int_inv r11
          rw [show isBoolD (.int i) = false from rfl, if_neg (by decide)]
          tm_at "wp"
          refine w_ixT hs1 (v := .int i) rfl ?_
          tm_at "wp"
          refine w_isiX r11 (isi_int (.int i)) ?_
          refine w_bl ?_
          rw [show isIntD (.int i) = true from rfl, if_pos rfl]
          tm_at "wp"
          refine w_ixT hs1 (v := .int i) rfl ?_
          tm_at "wp"
          rw [show (true && fromD (.int i) 1) = decide (0 < i) from by show decide (1 ≤ i) = _; exact decide_eq_decide.mpr (by omega)] at k
          exact k _ s1
        all_goals
          rw [if_neg (by nofun)]
          tm_at "wp"
          refine w_ixT hs1 (v := v1) rfl ?_
          tm_at "wp"
          refine w_isiX r11 (isi_int _) ?_
          refine w_bl ?_
          rw [if_neg (by nofun)]
          exact k _ s1
    all_goals
      refine w_bl ?_
      rw [if_pos (by rfl), if_pos rfl]
      tm_at "wp"
      exact k _ (Same.refl _)
theorem ok__law_due {P : Program} {w : World} {K : PySem.W.Frag} {mg : Str → Option Value} {base : Heap} (fr : Fre mg) (D : Dfd K mg "_law_due" s__law_due)
    (h__law_pair : Has P w K mg base CX0 1 "_law_pair" s__law_pair ["_law_thing_here"] (sp__law_pair K)) : Has P w K mg base CX0 2 "_law_due" s__law_due ["_law_bag_here"] (sp__law_due K) := by
  refine D.has sc__law_due (fun vs H Q E h => ?_) (fun cdv A outer s H vs Q E hr hg h => ?_)
  · obtain ⟨v, d, rfl, _⟩ := h; rfl
  · obtain ⟨v, d, rfl, hd, hz, hlen, k⟩ := h
    have nd := sc__law_due.nd
    refine ⟨_, PSs.nox (pss_cons (ps_if (pt_not (pt_val (pe_callB (k_isi K) rfl fr.isinstance_ (by decide +kernel) (pa_cons (pv 0) (pa_cons (pe_bltn (v := .ty "tuple") rfl fr.tuple_ boot_tuple rfl) pa_nil))))) (pss_one (ps_ret pe_non)) pss_nil)
      (pss_cons (ps_for PassesOwn.never rfl (pi_range1 rfl fr.range_ (pa_cons (pe_callB (k_len K) rfl fr.len_ (by decide +kernel) (pa_cons (pv 0) pa_nil)) pa_nil)) (pg_name (i := 1) nd rfl (Or.inl rfl))
        (pss_one (ps_if (PW.pt (pw_or (pt_cmpR op_gt (pv 1) pe_int (nomark _)) (pw_or (pt_not (pt_val (pe_fn h__law_pair pb__law_pair (hr.mono (by decide)) hg rfl pass0 (pa_cons (pe_ix (k_ixT K) (pv 0) (pv 1) (fun _ _ => rfl)) pa_nil)))) (pw_or1 (PW.pt (pw_and (pt_cmpR op_gt (pv 1) pe_int (nomark _)) (pw_and1 (pt_cmpR o_leS (pe_ix (k_ixT K) (pe_ix (k_ixT K) (pv 0) (pv 1) (fun _ _ => rfl)) pe_int (fun _ _ => rfl)) (pe_ix (k_ixT K) (pe_ix (k_ixT K) (pv 0) (pe_op op_sub (pv 1) pe_int) (fun _ _ => rfl)) pe_int (fun _ _ => rfl)) (nomark _))))))))) (pss_one (ps_ret (pv 1))) pss_nil)))
      (pss_one (ps_ret (pe_un un_neg pe_int))))), ?_⟩
    try dsimp only [cxOf]
    tm_at "wp"
    refine w_isiX hd (isi_tup d) ?_
    cases d
    case tuple ds =>
      obtain ⟨a, xs, rfl, hs, hx⟩ := dx_tup_inv hd
      have hl := dxs_len hx
      have hz2 : szDs ds = true := by simpa [szD] using hz
      have hl5 := hlen ds rfl
      refine w_bl ?_
      rw [show (!isTupD (.tuple ds)) = false from rfl, if_neg (by decide)]
      tm_at "wp"
      refine w_lenT hs ?_
      tm_at "wp"
      refine w_onR1 ⟨by omega, by omega⟩ ?_
      refine for_go walk_range (fun i σ H' => ∃ (u2 : Option V), σ = [some (.ref a), u2] ∧ Same H H' ∧ ∀ j, j < i → badAt ds 12 j = false) ⟨none, rfl, Same.refl _, fun j h => by omega⟩ (fun _ _ _ _ _ => trivial) ?_ ?_
      · rintro i y σ H2 H1 hi ⟨u2, rfl, s1, hp⟩ ⟨rfl, rfl⟩
        have hil : i < xs.length := by omega
        have ex : xs[i]? = some xs[i] := List.getElem?_eq_getElem hil
        obtain ⟨d, e1, e2⟩ := dxs_get hx ex
        have hgd : ds.getD i .none = d := by simp [List.getD, e1]
        refine w_gname ?_
        tm_at "wp"
        have ret : badAt ds 12 i = true → ∀ H', Same H H' → Q (.int (0 + (i : Nat))) H' := fun hb H' s' => by
          have e := firstBad_some (by omega) hb hp
          have e3 : verDue (badF 12) (.tuple ds) = .int (i : Nat) := by simp only [verDue]; rw [show badF 12 ds = some i from e]
          rw [e3] at k
          rw [Int.zero_add]
          exact k H' s'
        have nxt : badAt ds 12 i = false → ∀ j, j < i + 1 → badAt ds 12 j = false := fun hb j hj => by
          by_cases e : j = i
          · rw [e]; exact hb
          · exact hp j (by omega)
        by_cases h1 : 11 < 0 + (i : Int)
        · rw [decide_eq_true h1, if_pos rfl, if_pos rfl]
          tm_at "wp"
          refine ret ?_ _ s1
          unfold badAt
          rw [decide_eq_true (show (12 : Int) ≤ (i : Int) by omega)]; rfl
        rw [decide_eq_false h1, if_neg (by decide)]
        tm_at "wp"
        refine w_ixT (sqt_same s1 hs) (v := xs[i]) (by rw [Int.zero_add]; exact atI_nat ex) ?_
        tm_at "wp"
        refine ⟨xs[i], d, rfl, dx_same s1 e2, szDs_get hz2 e1, fun H3 s3 => ?_⟩
        have s4 := s1.trans s3
        refine w_bl ?_
        cases h2 : runD d with
        | false =>
          rw [if_pos (by rfl), if_pos rfl]
          tm_at "wp"
          refine ret ?_ _ s4
          unfold badAt
          rw [hgd, h2]; simp
        | true =>
          rw [if_neg (by decide)]
          tm_at "wp"
          obtain ⟨b, nx, wx, exi, hb, en⟩ := run_invD (dx_same s1 e2) h2
          by_cases h3 : 0 < 0 + (i : Int)
          · rw [if_pos (decide_eq_true h3)]
            tm_at "wp"
            refine w_ixT (sqt_same s4 hs) (v := .ref b) (by rw [Int.zero_add, ← exi]; exact atI_nat ex) ?_
            tm_at "wp"
            refine w_ixT (sqt_same s3 hb) (v := .str nx) rfl ?_
            tm_at "wp"
            have hi0 : i - 1 < ds.length := by omega
            have g0 : badAt ds 12 (i - 1) = false := hp (i - 1) (by omega)
            obtain ⟨v1, q1, q2⟩ := dxs_get' hx (List.getElem?_eq_getElem hi0)
            have r1 : runD ds[i - 1] = true := by
              unfold badAt at g0
              rw [getD_ofD (List.getElem?_eq_getElem hi0)] at g0
              cases z : runD ds[i - 1]
              · rw [z] at g0; simp at g0
              · rfl
            obtain ⟨b1, nx1, wx1, rfl, hb1, en1⟩ := run_invD q2 r1
            refine w_ixT (sqt_same s4 hs) (v := .ref b1) ?_ ?_
            · have e : (0 + ((i : Nat) : Int)) - 1 = ((i - 1 : Nat) : Int) := by omega
              rw [e]; exact atI_nat q1
            tm_at "wp"
            refine w_ixT (sqt_same s4 hb1) (v := .str nx1) rfl ?_
            tm_at "wp"
            have key : badAt ds 12 i = !decide (ltS nx1 nx) := by
              unfold badAt
              rw [hgd, getD_ofD (List.getElem?_eq_getElem hi0), h2, en, en1, decide_eq_false (show ¬ (12 : Int) ≤ (i : Int) by omega), decide_eq_true (show 0 < i by omega)]
              simp
            by_cases h4 : ltS nx1 nx
            · rw [decide_eq_true (show nx1.cps.toList < nx.cps.toList from h4), Bool.not_true, if_neg (by decide)]
              tm_at "wp"
              refine ⟨_, rfl, s4, nxt ?_⟩
              rw [key, decide_eq_true h4]; rfl
            · rw [decide_eq_false (show ¬ nx1.cps.toList < nx.cps.toList from h4), Bool.not_false, if_pos rfl]
              tm_at "wp"
              refine ret ?_ _ s4
              rw [key, decide_eq_false h4]; rfl
          · rw [if_neg (by rw [decide_eq_false h3]; decide)]
            tm_at "wp"
            refine ⟨_, rfl, s4, nxt ?_⟩
            unfold badAt
            rw [hgd, h2, decide_eq_false (show ¬ (12 : Int) ≤ (i : Int) by omega), decide_eq_false (show ¬ 0 < i by omega)]; rfl
      · rintro σ H1 ⟨u2, rfl, s1, hp⟩
        tm_at "wp"
        have e := firstBad_none (ds := ds) (m := 12) fun j hj => hp j (by omega)
        have e3 : verDue (badF 12) (.tuple ds) = .int (-1) := by simp only [verDue]; rw [show badF 12 ds = none from e]
        rw [e3] at k
        exact k _ s1
    all_goals
      refine w_bl ?_
      rw [if_pos (by rfl)]
      tm_at "wp"
      exact k _ (Same.refl _)
theorem ok__law_odd {P : Program} {w : World} {K : PySem.W.Frag} {mg : Str → Option Value} {base : Heap} (fr : Fre mg) (D : Dfd K mg "_law_odd" s__law_odd)
    (h__law_draw : Has P w K mg base CX0 1 "_law_draw" s__law_draw ["_law_pool_here", "_law_many"] (sp__law_draw K)) : Has P w K mg base CX0 2 "_law_odd" s__law_odd ["_law_pool_here", "_law_word"] (sp__law_odd K) := by
  refine D.has sc__law_odd (fun vs H Q E h => ?_) (fun cdv A outer s H vs Q E hr hg h => ?_)
  · obtain ⟨p, w1, rfl, _⟩ := h; rfl
  · obtain ⟨p, w1, rfl, hp, hw, k⟩ := h
    have nd := sc__law_odd.nd
    refine ⟨_, PSs.nox (pss_cons (ps_set (i := 2) nd rfl (Or.inl rfl) (pe_lst (pa_cons pe_non (pa_cons pe_int (pa_cons pe_bl (pa_cons pe_str (pa_cons (pe_tup pa_nil) (pa_cons (pe_tup (pa_cons pe_str pa_nil)) (pa_cons (pe_tup (pa_cons pe_str (pa_cons pe_int (pa_cons pe_int pa_nil)))) (pa_cons (pe_lst (pa_cons pe_str (pa_cons pe_int pa_nil))) (pa_cons (pe_tup (pa_cons pe_str (pa_cons pe_int pa_nil))) (pa_cons (pe_tup (pa_cons pe_str (pa_cons pe_int pa_nil))) (pa_cons (pe_tup (pa_cons pe_str (pa_cons pe_int pa_nil))) (pa_cons (pe_tup (pa_cons pe_str (pa_cons pe_int pa_nil))) (pa_cons (pe_tup (pa_cons pe_str (pa_cons pe_int pa_nil))) pa_nil)))))))))))))))
      (pss_cons (ps_set (i := 2) nd rfl (Or.inl rfl) (pe_op op_cat (pv 2) (pe_lst (pa_cons (pe_tup (pa_cons pe_str (pa_cons (pe_un un_neg pe_int) pa_nil))) (pa_cons (pe_tup (pa_cons pe_str (pa_cons pe_bl pa_nil))) (pa_cons (pe_tup (pa_cons pe_str (pa_cons pe_str pa_nil))) (pa_cons (pe_tup (pa_cons pe_str (pa_cons pe_non pa_nil))) (pa_cons (pe_tup (pa_cons (pv 1) (pa_cons pe_int pa_nil))) (pa_cons (pe_tup (pa_cons (pv 1) (pa_cons pe_int pa_nil))) (pa_cons (pe_tup (pa_cons pe_non (pa_cons pe_int pa_nil))) (pa_cons (pe_tup (pa_cons (pe_tup (pa_cons pe_str pa_nil)) (pa_cons pe_int pa_nil))) (pa_cons pe_dnewK pa_nil))))))))))))
      (pss_cons (ps_set (i := 2) nd rfl (Or.inl rfl) (pe_op op_cat (pv 2) (pe_lst (pa_cons (pe_tup (pa_cons pe_str (pa_cons pe_int pa_nil))) (pa_cons (pe_tup (pa_cons pe_str (pa_cons pe_int pa_nil))) (pa_cons (pe_tup (pa_cons pe_int (pa_cons pe_str pa_nil))) (pa_cons (pe_tup (pa_cons (pv 1) (pa_cons (pe_lst (pa_cons pe_int pa_nil)) pa_nil))) (pa_cons (pe_tup (pa_cons pe_str (pa_cons (pe_op op_pow pe_int pe_int) pa_nil))) (pa_cons (pe_tup (pa_cons pe_str (pa_cons (pe_tup (pa_cons pe_int pa_nil)) pa_nil))) pa_nil)))))))))
      (pss_one (ps_ret (pe_ix (k_ixL K) (pe_op op_cat (pv 2) (pe_lst (pa_cons (pe_tup (pa_cons (pe_lst (pa_cons (pv 1) pa_nil)) (pa_cons pe_int pa_nil))) (pa_cons (pe_tup (pa_cons pe_dnewK (pa_cons pe_int pa_nil))) (pa_cons (pe_tup (pa_cons (pv 1) (pa_cons pe_dnewK pa_nil))) pa_nil))))) (pe_fn h__law_draw pb__law_draw (hr.mono (by decide)) hg rfl pass0 (pa_cons (pv 0) (pa_cons pe_int pa_nil))) (fun _ _ => rfl))))))), ?_⟩
    try dsimp only [cxOf]
    tm_at "wq"
    refine gl_asg (K := K) (ds := odd1) (by tm_at "gd") fun l xs H1 s1 hl1 hx1 => ?_
    tm_at "wq"
    refine gl_asg (K := K) (ds := odd1 ++ odd2 w1) (gl_cat (gl_var (by with_unfolding_all exact rfl) hl1 hx1) (by tm_at "gd") rfl) fun l2 xs2 H2 s2 hl2 hx2 => ?_
    tm_at "wq"
    refine gl_asg (K := K) (ds := (odd1 ++ odd2 w1) ++ odd3 w1) (gl_cat (gl_var (by with_unfolding_all exact rfl) hl2 hx2) (by tm_at "gd") rfl) fun l3 xs3 H3 s3 hl3 hx3 => ?_
    tm_at "wx"
    refine gl_op (K := K) (ds := ((odd1 ++ odd2 w1) ++ odd3 w1) ++ odd4 w1) (gl_cat (gl_var (by with_unfolding_all exact rfl) hl3 hx3) (by tm_at "gd") rfl) fun l4 xs4 H4 s4 hl4 hx4 => ?_
    tm_at "wp"
    have s04 := ((s1.trans s2).trans s3).trans s4
    refine ⟨p, 31, rfl, s04 _ _ hp, by decide, by decide, fun r H5 r0 r1 s5 => ?_⟩
    have hl : xs4.length = 31 := by rw [dxs_len hx4]; rfl
    have hg : xs4[r.toNat]? = some xs4[r.toNat] := List.getElem?_eq_getElem (by omega)
    refine w_ixL (SqL.of (s5 _ _ hl4)) (v := xs4[r.toNat]) (at_of' (j := r.toNat) (by omega) hg) ?_
    obtain ⟨d, e1, e2⟩ := dxs_get hx4 hg
    exact k _ d _ (s04.trans s5) (dx_same s5 e2) (odds_small hw d (List.mem_of_getElem? e1))
theorem ok__law_one_right {P : Program} {w : World} {K : PySem.W.Frag} {mg : Str → Option Value} {base : Heap} (fr : Fre mg) (xE : ExF K mg) (D__law_caught : Dfd K mg "_law_caught" s__law_caught) (D : Dfd K mg "_law_one_right" s__law_one_right) (tb__law_one_right : TabB base mg (He.cT K ("_law_one_right", none)).1 (He.cT K ("_law_one_right", none)).2) (hu__law_one_right : ∀ p ∈ tabs K, p.1 = (He.cT K ("_law_one_right", none)).2 → p.2 = "_law_one_right.<locals>.<lambda>")
    (h__law_due : Has P w K mg base CX0 2 "_law_due" s__law_due ["_law_bag_here"] (sp__law_due K))
    (h_is_counts : Has P w K mg base CX0 5 "is_counts" s_is_counts ["thing"] (sp_is_counts K))
    (h__law_kind : HasP P w K mg base 1 "_law_kind" s__law_kind ["_law_e"] (sp__law_kind K))
    (h__law_fields : HasP P w K mg base 2 "_law_fields" s__law_fields ["_law_e"] (sp__law_fields K))
    (h_total : Has P w K mg base (L2.CX P w) 6 "total" s_total ["counts"] (sp_total K))
    (h_count_of : Has P w K mg base (L2.CX P w) 6 "count_of" s_count_of ["counts", "name"] (sp_count_of K))
    (h_added : Has P w K mg base (L2.CX P w) 6 "added" s_added ["one", "other"] (sp_added K)) : Has P w K mg base CX0 9 "_law_one_right" s__law_one_right ["_law_bag_here", "_law_good"] (sp__law_one_right K) := by
  refine D.hasL sc__law_one_right (fun vs H Q E h => ?_) (fun cdv A outer s H vs Q E hcd hr hg h => ?_)
  · obtain ⟨v, g, d, dg, rfl, _⟩ := h; rfl
  · obtain ⟨v, g, d, dg, rfl, hd, hO, hdg, hzg, hgood, hT, k⟩ := h
    have nd := sc__law_one_right.nd
    refine ⟨_, PSs.nox (pss_cons (ps_set (i := 2) nd rfl (Or.inr rfl) (pe_fn h__law_due pb__law_due (hr.mono (by decide)) hg rfl pass0 (pa_cons (pv 0) pa_nil)))
      (pss_cons (ps_if (pt_cmpR op_ne (pe_fn h_is_counts pb_is_counts (hr.mono (by decide)) hg rfl pass0 (pa_cons (pv 0) pa_nil)) (pe_cmpR op_eq (pv 2) (pe_un un_neg pe_int) (nomark _)) (nomark _)) (pss_one (ps_ret pe_bl)) pss_nil)
      (pss_cons (ps_set (i := 3) nd rfl (Or.inl rfl) (pe_lst (pa_cons (pe_caught (T := tabs K) (k := 6) D__law_caught sc__law_caught pb__law_caught (Or.inl rfl) rfl (fun cdv => caught_gives (hr.mono (by decide)) hg h__law_kind h__law_fields pb__law_kind pb__law_fields (xE.glo _ (by decide +kernel)) (xE.glo _ (by decide +kernel)) (xE.glo _ (by decide +kernel)) xE.exm rfl rfl rfl rfl rfl rfl) tb__law_one_right hcd (tm__law_one_right K) hu__law_one_right (by rfl) hg (hr.mono (by decide)) (lamS_by (sc := defScope s__law_one_right) (by decide +kernel)) rfl (fun _ _ _ _ _ => rfl) (fun A outer s H E f c' hgL hrL => (pe_fn h_total pb_total (hrL.mono (by decide)) hgL rfl (passE takesL) (pa_cons (pv 0) pa_nil)))) pa_nil)))
      (pss_cons (ps_expr (k_bm K PySem.F.plainAttrs_list PySem.F.slot_list_append PySem.F.type_list_append mt_append (pv 3) (pa_cons (pe_caught (T := tabs K) (k := 6) D__law_caught sc__law_caught pb__law_caught (Or.inl rfl) rfl (fun cdv => caught_gives (hr.mono (by decide)) hg h__law_kind h__law_fields pb__law_kind pb__law_fields (xE.glo _ (by decide +kernel)) (xE.glo _ (by decide +kernel)) (xE.glo _ (by decide +kernel)) xE.exm rfl rfl rfl rfl rfl rfl) tb__law_one_right hcd (tm__law_one_right K) hu__law_one_right (by rfl) hg (hr.mono (by decide)) (lamS_by (sc := defScope s__law_one_right) (by decide +kernel)) rfl (fun _ _ _ _ _ => rfl) (fun A outer s H E f c' hgL hrL => (pe_fn h_count_of pb_count_of (hrL.mono (by decide)) hgL rfl (passE takesL) (pa_cons (pv 0) (pa_cons pe_str pa_nil))))) pa_nil)))
      (pss_cons (ps_expr (k_bm K PySem.F.plainAttrs_list PySem.F.slot_list_append PySem.F.type_list_append mt_append (pv 3) (pa_cons (pe_caught (T := tabs K) (k := 6) D__law_caught sc__law_caught pb__law_caught (Or.inl rfl) rfl (fun cdv => caught_gives (hr.mono (by decide)) hg h__law_kind h__law_fields pb__law_kind pb__law_fields (xE.glo _ (by decide +kernel)) (xE.glo _ (by decide +kernel)) (xE.glo _ (by decide +kernel)) xE.exm rfl rfl rfl rfl rfl rfl) tb__law_one_right hcd (tm__law_one_right K) hu__law_one_right (by rfl) hg (hr.mono (by decide)) (lamS_by (sc := defScope s__law_one_right) (by decide +kernel)) rfl (fun _ _ _ _ _ => rfl) (fun A outer s H E f c' hgL hrL => (pe_ifExp (pt_cmpR op_ne (pv 2) (pe_un un_neg pe_int) (nomark _)) (pe_fn h_count_of pb_count_of (hrL.mono (by decide)) hgL rfl (passE takesL) (pa_cons (pv 0) (pa_cons pe_str pa_nil))) (pe_fn h_total pb_total (hrL.mono (by decide)) hgL rfl (passE takesL) (pa_cons (pv 0) pa_nil))))) pa_nil)))
      (pss_cons (ps_expr (k_bm K PySem.F.plainAttrs_list PySem.F.slot_list_append PySem.F.type_list_append mt_append (pv 3) (pa_cons (pe_caught (T := tabs K) (k := 6) D__law_caught sc__law_caught pb__law_caught (Or.inl rfl) rfl (fun cdv => caught_gives (hr.mono (by decide)) hg h__law_kind h__law_fields pb__law_kind pb__law_fields (xE.glo _ (by decide +kernel)) (xE.glo _ (by decide +kernel)) (xE.glo _ (by decide +kernel)) xE.exm rfl rfl rfl rfl rfl rfl) tb__law_one_right hcd (tm__law_one_right K) hu__law_one_right (by rfl) hg (hr.mono (by decide)) (lamS_by (sc := defScope s__law_one_right) (by decide +kernel)) rfl (fun _ _ _ _ _ => rfl) (fun A outer s H E f c' hgL hrL => (pe_fn h_added pb_added (hrL.mono (by decide)) hgL rfl (passE takesL) (pa_cons (pv 0) (pa_cons (pe_ifExp (pt_cmpR op_ne (pv 2) (pe_un un_neg pe_int) (nomark _)) pe_non (pe_tup pa_nil)) pa_nil))))) pa_nil)))
      (pss_cons (ps_expr (k_bm K PySem.F.plainAttrs_list PySem.F.slot_list_append PySem.F.type_list_append mt_append (pv 3) (pa_cons (pe_caught (T := tabs K) (k := 6) D__law_caught sc__law_caught pb__law_caught (Or.inl rfl) rfl (fun cdv => caught_gives (hr.mono (by decide)) hg h__law_kind h__law_fields pb__law_kind pb__law_fields (xE.glo _ (by decide +kernel)) (xE.glo _ (by decide +kernel)) (xE.glo _ (by decide +kernel)) xE.exm rfl rfl rfl rfl rfl rfl) tb__law_one_right hcd (tm__law_one_right K) hu__law_one_right (by rfl) hg (hr.mono (by decide)) (lamS_by (sc := defScope s__law_one_right) (by decide +kernel)) rfl (fun _ _ _ _ _ => rfl) (fun A outer s H E f c' hgL hrL => (pe_ifExp (pt_cmpR op_ne (pv 2) (pe_un un_neg pe_int) (nomark _)) (pe_fn h_added pb_added (hrL.mono (by decide)) hgL rfl (passE takesL) (pa_cons (pv 1) (pa_cons (pv 0) pa_nil))) (pe_fn h_total pb_total (hrL.mono (by decide)) hgL rfl (passE takesL) (pa_cons (pv 0) pa_nil))))) pa_nil)))
      (pss_cons (ps_if (pt_cmpR op_eq (pv 2) (pe_un un_neg pe_int) (nomark _)) (pss_one (ps_ret (pe_callB (k_all K rfl) rfl fr.all_ (by decide +kernel) (pa_cons (pe_lc (own := [("_law_told", 4)]) (g := gName 4) (tt := tYes) rfl nd (k_iList K (pv 3)) (blkOk_by (own := [("_law_told", 4)]) (N := N__law_one_right) (sc := defScope s__law_one_right) (by decide +kernel)) (fun _ _ _ _ _ => (pg_name (i := 4) nd rfl (Or.inl rfl))) (fun _ _ _ _ _ => pts_nil) (fun _ _ _ _ _ => (pe_cmpR op_eq (pe_ix (k_ixL K) (pv 4) pe_int (fun _ _ => rfl)) pe_str (nomark _)))) pa_nil)))) pss_nil)
      (pss_one (ps_ret (pe_cmpR op_eq (pe_callB (k_reprX K hg hr.units) rfl fr.repr_ (by decide +kernel) (pa_cons (pv 3) pa_nil)) (pe_callB (k_reprX K hg hr.units) rfl fr.repr_ (by decide +kernel) (pa_cons (pe_op op_rep (pe_lst (pa_cons (pe_lst (pa_cons pe_str (pa_cons (pv 2) pa_nil))) pa_nil)) pe_int) pa_nil)) (nomark _)))))))))))), ?_⟩
    try dsimp only [cxOf]
    obtain ⟨wd, hw1, hw2⟩ : ∃ wd : Str, (verOk (badF 12) d = true → wd = "returned") ∧ (verOk (badF 12) d = false → wd = "counts") := by
      cases verOk (badF 12) d
      · exact ⟨"counts", nofun, fun _ => rfl⟩
      · exact ⟨"returned", fun _ => rfl, nofun⟩
    tm_at "wp"
    refine ⟨v, d, rfl, hd, hO.sz, hO.len, fun H4 s4 => ?_⟩
    tm_at "wp"
    refine ⟨v, d, rfl, dx_same s4 hd, hO.sz, fun H5 s5 => ?_⟩
    tm_at "wp"
    refine w_dueEq K ?_
    refine w_neBl ?_
    rw [decide_eq_true rfl]
    refine w_bl ?_
    rw [if_neg (by decide)]
    tm_at "wp"
    have x0 := ExtN.of (s4.trans s5)
    have T0 := hT.ext (s4.trans s5)
    refine w_caughtV wd (fun z => verOk (badF 12) d = false → z = verV (badF 12) d) T0 (fun l1 y1 H1 x1 T1 hl1 hy1 => ?_) (fun Hq xq Tq Q' hQ => ?_)
    rotate_left
    · tm_at "wp"
      refine ⟨v, d, rfl, dx_x (x0.trans xq) hd, hO.sz, fun ho i Hr sr => ?_, fun ho dx Hr sr hdx => ?_⟩
      · have e := hw1 ho
        subst e
        exact w_told fun l Ht st hlt => hQ l _ Ht (xq.trans (ExtN.of (sr.trans st))) (Tq.ext (sr.trans st)) hlt (fun z => by rw [ho] at z; cases z)
      · have e := hw2 ho
        subst e
        exact w_held (C := "InvalidCounts") (f := "index") (wd := "counts") (by decide +kernel) hdx fun l Ht st hlt => hQ l _ Ht (xq.trans (ExtN.of (sr.trans st))) (Tq.ext (sr.trans st)) hlt (fun _ => rfl)
    tm_at "wp"
    rename_i R hR
    have hRow := rows_one (P := (fun z => verOk (badF 12) d = false → z = verV (badF 12) d)) hR hl1 hy1
    have xe := x0.trans x1
    have x2 := xe.trans (ExtN.of (same_new hR (u := HO.lst [.ref l1])))
    have T2 := T1.ext (same_new hR (u := HO.lst [.ref l1]))
    generalize [V.ref l1] = ls at *
    generalize upd H1 R (HO.lst ls) = H2 at *
    clear hl1 hy1 T1 x1
    tm_at "wp"
    refine w_tyL hRow.1 ?_
    tm_at "wp"
    refine w_caughtV wd (fun z => verOk (badF 12) d = false → z = verV (badF 12) d) T2 (fun l3 y3 H3 x3 T3 hl3 hy3 => ?_) (fun Hq xq Tq Q' hQ => ?_)
    rotate_left
    · tm_at "wp"
      refine ⟨v, .str "a", d, .str "a", rfl, dx_x (x2.trans xq) hd, hO.sz, .str _, by decide +kernel, fun ho hn i Hr sr => ?_, fun ho hn => absurd hn (by decide +kernel), fun ho dx Hr sr hdx => ?_⟩
      · have e := hw1 ho
        subst e
        exact w_told fun l Ht st hlt => hQ l _ Ht (xq.trans (ExtN.of (sr.trans st))) (Tq.ext (sr.trans st)) hlt (fun z => by rw [ho] at z; cases z)
      · have e := hw2 ho
        subst e
        exact w_held (C := "InvalidCounts") (f := "index") (wd := "counts") (by decide +kernel) hdx fun l Ht st hlt => hQ l _ Ht (xq.trans (ExtN.of (sr.trans st))) (Tq.ext (sr.trans st)) hlt (fun _ => rfl)
    replace hRow := rows_x x3 hRow
    tm_at "wp"
    refine w_append hRow.1 (by have := hRow.2.1; rw [sizeLine_eq]; omega) ?_
    replace T2 := tabs_upd (ys := ls ++ [.ref l3]) T3 hRow.1
    replace x2 := x_mut2 (o := HO.lst (ls ++ [.ref l3])) (x2.trans x3) xe hR
    replace hRow := rows_add hRow hl3 hy3
    clear hl3 hy3 T3 x3
    generalize ls ++ [V.ref l3] = ls at *
    generalize upd H3 R (HO.lst ls) = H2 at *
    tm_at "wp"
    refine w_tyL hRow.1 ?_
    tm_at "wp"
    refine w_caughtV wd (fun z => verOk (badF 12) d = false → z = verV (badF 12) d) T2 (fun l3 y3 H3 x3 T3 hl3 hy3 => ?_) (fun Hq xq Tq Q' hQ => ?_)
    rotate_left
    · tm_at "wp"
      refine w_dueNe K ?_
      refine w_bl ?_
      cases ho0 : verOk (badF 12) d with
      | true =>
        rw [if_neg (by decide)]
        tm_at "wp"
        refine ⟨v, d, rfl, dx_x (x2.trans xq) hd, hO.sz, fun ho i Hr sr => ?_, fun ho dx Hr sr hdx => ?_⟩
        · have e := hw1 ho
          subst e
          exact w_told fun l Ht st hlt => hQ l _ Ht (xq.trans (ExtN.of (sr.trans st))) (Tq.ext (sr.trans st)) hlt (fun z => by rw [ho] at z; cases z)
        · have e := hw2 ho
          subst e
          exact w_held (C := "InvalidCounts") (f := "index") (wd := "counts") (by decide +kernel) hdx fun l Ht st hlt => hQ l _ Ht (xq.trans (ExtN.of (sr.trans st))) (Tq.ext (sr.trans st)) hlt (fun _ => rfl)
      | false =>
        rw [if_pos (by rfl)]
        tm_at "wp"
        have e := hw2 ho0
        subst e
        exact ⟨v, .str "A", d, .str "A", rfl, dx_x (x2.trans xq) hd, hO.sz, .str _, by decide +kernel, fun ho => absurd (ho0.symm.trans ho) (by decide), fun ho => absurd (ho0.symm.trans ho) (by decide), fun ho dx Hr sr hdx => w_held (C := "InvalidCounts") (f := "index") (wd := "counts") (by decide +kernel) hdx fun l Ht st hlt => hQ l _ Ht (xq.trans (ExtN.of (sr.trans st))) (Tq.ext (sr.trans st)) hlt (fun _ => rfl)⟩
    replace hRow := rows_x x3 hRow
    tm_at "wp"
    refine w_append hRow.1 (by have := hRow.2.1; rw [sizeLine_eq]; omega) ?_
    replace T2 := tabs_upd (ys := ls ++ [.ref l3]) T3 hRow.1
    replace x2 := x_mut2 (o := HO.lst (ls ++ [.ref l3])) (x2.trans x3) xe hR
    replace hRow := rows_add hRow hl3 hy3
    clear hl3 hy3 T3 x3
    generalize ls ++ [V.ref l3] = ls at *
    generalize upd H3 R (HO.lst ls) = H2 at *
    tm_at "wp"
    refine w_tyL hRow.1 ?_
    tm_at "wp"
    refine w_caughtV wd (fun z => verOk (badF 12) d = false → z = verV (badF 12) d) T2 (fun l3 y3 H3 x3 T3 hl3 hy3 => ?_) (fun Hq xq Tq Q' hQ => ?_)
    rotate_left
    · tm_at "wp"
      refine w_dueNe K ?_
      refine w_bl ?_
      cases ho0 : verOk (badF 12) d with
      | true =>
        rw [if_neg (by decide)]
        tm_at "wp"
        rename_i q hq
        have e := hw1 ho0
        subst e
        have sq := same_new hq (u := HO.tup [])
        refine ⟨v, .ref q, d, .tuple [], rfl, dx_same sq (dx_x (x2.trans xq) hd), hO.sz, .tup (SqT.of upd_same) .nil, rfl, fun _ _ => rfl, fun _ _ y Hr sr => ?_, fun _ h => absurd h (by decide +kernel), fun h => absurd (ho0.symm.trans h) (by decide)⟩
        exact w_told fun l Ht st hlt => hQ l _ Ht (xq.trans (ExtN.of ((sq).trans (sr.trans st)))) (Tq.ext ((sq).trans (sr.trans st))) hlt (fun z => by rw [ho0] at z; cases z)
      | false =>
        rw [if_pos (by rfl)]
        tm_at "wp"
        have e := hw2 ho0
        subst e
        exact ⟨v, .non, d, .none, rfl, dx_x (x2.trans xq) hd, hO.sz, .non, rfl, fun h => absurd (ho0.symm.trans h) (by decide), fun h => absurd (ho0.symm.trans h) (by decide), fun h => absurd (ho0.symm.trans h) (by decide), fun _ dx Hr sr hdx => w_held (C := "InvalidCounts") (f := "index") (wd := "counts") (by decide +kernel) hdx fun l Ht st hlt => hQ l _ Ht (xq.trans (ExtN.of (sr.trans st))) (Tq.ext (sr.trans st)) hlt (fun _ => rfl)⟩
    replace hRow := rows_x x3 hRow
    tm_at "wp"
    refine w_append hRow.1 (by have := hRow.2.1; rw [sizeLine_eq]; omega) ?_
    replace T2 := tabs_upd (ys := ls ++ [.ref l3]) T3 hRow.1
    replace x2 := x_mut2 (o := HO.lst (ls ++ [.ref l3])) (x2.trans x3) xe hR
    replace hRow := rows_add hRow hl3 hy3
    clear hl3 hy3 T3 x3
    generalize ls ++ [V.ref l3] = ls at *
    generalize upd H3 R (HO.lst ls) = H2 at *
    tm_at "wp"
    refine w_tyL hRow.1 ?_
    tm_at "wp"
    refine w_caughtV wd (fun z => verOk (badF 12) d = false → z = verV (badF 12) d) T2 (fun l3 y3 H3 x3 T3 hl3 hy3 => ?_) (fun Hq xq Tq Q' hQ => ?_)
    rotate_left
    · tm_at "wp"
      refine w_dueNe K ?_
      refine w_bl ?_
      cases ho0 : verOk (badF 12) d with
      | true =>
        rw [if_neg (by decide)]
        tm_at "wp"
        refine ⟨v, d, rfl, dx_x (x2.trans xq) hd, hO.sz, fun ho i Hr sr => ?_, fun ho dx Hr sr hdx => ?_⟩
        · have e := hw1 ho
          subst e
          exact w_told fun l Ht st hlt => hQ l _ Ht (xq.trans (ExtN.of (sr.trans st))) (Tq.ext (sr.trans st)) hlt (fun z => by rw [ho] at z; cases z)
        · have e := hw2 ho
          subst e
          exact w_held (C := "InvalidCounts") (f := "index") (wd := "counts") (by decide +kernel) hdx fun l Ht st hlt => hQ l _ Ht (xq.trans (ExtN.of (sr.trans st))) (Tq.ext (sr.trans st)) hlt (fun _ => rfl)
      | false =>
        rw [if_pos (by rfl)]
        tm_at "wp"
        have e := hw2 ho0
        subst e
        exact ⟨g, v, dg, d, rfl, dx_x (x2.trans xq) hdg, hzg, dx_x (x2.trans xq) hd, hO.sz, fun _ h => absurd (ho0.symm.trans h) (by decide), fun _ h => absurd (ho0.symm.trans h) (by decide), fun _ _ dx Hr sr hdx => w_held (C := "InvalidCounts") (f := "index") (wd := "counts") (by decide +kernel) hdx fun l Ht st hlt => hQ l _ Ht (xq.trans (ExtN.of (sr.trans st))) (Tq.ext (sr.trans st)) hlt (fun _ => rfl), fun h => absurd ((hgood ho0).symm.trans h) (by decide)⟩
    replace hRow := rows_x x3 hRow
    tm_at "wp"
    refine w_append hRow.1 (by have := hRow.2.1; rw [sizeLine_eq]; omega) ?_
    replace T2 := tabs_upd (ys := ls ++ [.ref l3]) T3 hRow.1
    replace x2 := x_mut2 (o := HO.lst (ls ++ [.ref l3])) (x2.trans x3) xe hR
    replace hRow := rows_add hRow hl3 hy3
    clear hl3 hy3 T3 x3
    generalize ls ++ [V.ref l3] = ls at *
    generalize upd H3 R (HO.lst ls) = H2 at *
    tm_at "wp"
    refine w_dueEq K ?_
    refine w_bl ?_
    obtain ⟨hR2, hn, hall⟩ := hRow
    cases ho : verOk (badF 12) d with
    | true =>
      rw [if_pos rfl]
      have e := hw1 ho
      subst e
      tm_at "wp"
      refine w_onL (SqL.of hR2) ?_
      intro D0 hD
      refine lc_map (walk_list (xs := ls)) (n := ls.length) (by omega) (fun i y => y = .bl true) hD (fun _ s => (s.seq (SqL.of hR2))) ?_ ?_ mono_gname
      · rintro i y G1 G2 hi sg ⟨rfl, hy⟩ Qy hq
        obtain ⟨l, z, rfl, _, hl, _⟩ := hall y (List.mem_of_getElem? hy)
        refine w_gname ⟨rfl, ?_⟩
        tm_at "wp"
        refine w_ixL (SqL.of (sg _ _ hl)) (v := .str "returned") rfl ?_
        tm_at "wp"
        rw [decide_eq_true rfl]
        exact hq _ _ (Same.refl _) rfl
      intro acc H6 s6 _ hacc hla hf
      have eacc : acc = (List.replicate acc.length true).map V.bl := by
        refine List.ext_getElem? fun i => ?_
        cases z : acc[i]? with
        | none => rw [List.getElem?_eq_none (by simpa using List.getElem?_eq_none_iff.mp z)]
        | some y =>
          rw [hf i y z]
          obtain ⟨h, _⟩ := List.getElem?_eq_some_iff.mp z
          simp [h]
      rw [eacc] at hacc
      tm_at "wp"
      refine w_all (SqL.of hacc) ?_
      rw [show (List.replicate acc.length true).all id = true by simp]
      exact k _ (x2.trans (ExtN.of s6)) (T2.ext s6)
    | false =>
      rw [if_neg (by decide)]
      have e := hw2 ho
      subst e
      obtain ⟨g1, g2, g3⟩ := ver_no (K := K) (H := H2) ho
      have hsm := ver_small (n := 5000) (F := badF 12) bad_lt hO.len
      have hsh := counts_shows (d := verD (badF 12) d) (by
        rcases hsm with h | ⟨i, h1, h2⟩
        · exact .inl h
        · exact .inr ⟨i, h1, by omega⟩)
      have g3 := dp_dx g3
      have g4 : Dx K H2 (verDue (badF 12) d) (verD (badF 12) d) := by rw [g1]; exact g3
      tm_at "wp"
      refine w_reprX (d := .list (List.replicate 5 (.list [.str "counts", verD (badF 12) d]))) (.lst (SqL.of hR2) (dxs_const hn fun y hy => ?_)) hsh ?_
      · obtain ⟨l, z, rfl, _, hl, hz⟩ := hall y hy
        rw [hz ho] at hl
        exact .lst (SqL.of hl) (.cons (.str _) (.cons g3 .nil))
      tm_at "wp"
      rename_i I hI O hO2
      have f1 := hp_new (@upd_same H2 I (HO.lst [V.str "counts", verDue (badF 12) d])) hO2 (u := HO.lst [V.ref I])
      have sO := (same_new hI (u := HO.lst [V.str "counts", verDue (badF 12) d])).trans (same_new hO2 (u := HO.lst [V.ref I]))
      refine ⟨O, 5, [.ref I], rfl, rfl, upd_same, by decide, by decide, by rw [sizeLine_eq]; show 1 * 5 ≤ _; decide, fun p hp => ?_⟩
      have f2 := hp_new f1 hp (u := HO.lst (List.replicate (Int.toNat 5) [V.ref I]).flatten)
      have sP := sO.trans (same_new hp (u := HO.lst (List.replicate (Int.toNat 5) [V.ref I]).flatten))
      tm_at "wp"
      refine w_reprX (d := .list (List.replicate 5 (.list [.str "counts", verD (badF 12) d]))) (.lst (SqL.of upd_same) (dxs_const rfl fun y hy => ?_)) hsh ?_
      · have ey : y = .ref I := by
          obtain ⟨l, h1, h2⟩ := List.mem_flatten.mp hy
          rw [(List.mem_replicate.mp h1).2] at h2
          exact List.mem_singleton.mp h2
        rw [ey]
        exact .lst (SqL.of f2) (.cons (.str _) (.cons (dx_same sP g4) .nil))
      tm_at "wp"
      rw [decide_eq_true rfl]
      exact k _ (x2.trans (ExtN.of sP)) (T2.ext sP)
theorem ok__law_right {P : Program} {w : World} {K : PySem.W.Frag} {mg : Str → Option Value} {base : Heap} (fr : Fre mg) (xE : ExF K mg) (D__law_caught : Dfd K mg "_law_caught" s__law_caught) (D : Dfd K mg "_law_right" s__law_right) (tb__law_right : TabB base mg (He.cT K ("_law_right", none)).1 (He.cT K ("_law_right", none)).2) (hu__law_right : ∀ p ∈ tabs K, p.1 = (He.cT K ("_law_right", none)).2 → p.2 = "_law_right.<locals>.<lambda>")
    (h__law_words : Has P w K mg base CX0 2 "_law_words" s__law_words ["_law_pool_here", "_law_many"] (sp__law_words K))
    (h__law_draw : Has P w K mg base CX0 1 "_law_draw" s__law_draw ["_law_pool_here", "_law_many"] (sp__law_draw K))
    (h__law_bag : Has P w K mg base CX0 3 "_law_bag" s__law_bag ["_law_pool_here", "_law_words_here", "_law_most"] (sp__law_bag K))
    (h__law_odd : Has P w K mg base CX0 2 "_law_odd" s__law_odd ["_law_pool_here", "_law_word"] (sp__law_odd K))
    (h__law_one_right : Has P w K mg base CX0 9 "_law_one_right" s__law_one_right ["_law_bag_here", "_law_good"] (sp__law_one_right K))
    (h__law_kind : HasP P w K mg base 1 "_law_kind" s__law_kind ["_law_e"] (sp__law_kind K))
    (h__law_fields : HasP P w K mg base 2 "_law_fields" s__law_fields ["_law_e"] (sp__law_fields K))
    (h_count_of : Has P w K mg base (L2.CX P w) 6 "count_of" s_count_of ["counts", "name"] (sp_count_of K)) : Has P w K mg base CX0 10 "_law_right" s__law_right ["_law_pool_here"] (sp__law_right K) := by
  refine D.hasL sc__law_right (fun vs H Q E h => ?_) (fun cdv A outer s H vs Q E hcd hr hg h => ?_)
  · obtain ⟨p, rfl, _⟩ := h; rfl
  · obtain ⟨p, rfl, hp, hT, k⟩ := h
    have nd := sc__law_right.nd
    refine ⟨_, PSs.nox (pss_cons (ps_set (i := 1) nd rfl (Or.inl rfl) (pe_fn h__law_words pb__law_words (hr.mono (by decide)) hg rfl pass0 (pa_cons (pv 0) (pa_cons (pe_op op_add pe_int (pe_fn h__law_draw pb__law_draw (hr.mono (by decide)) hg rfl pass0 (pa_cons (pv 0) (pa_cons pe_int pa_nil)))) pa_nil))))
      (pss_cons (ps_set (i := 2) nd rfl (Or.inr rfl) (pe_fn h__law_bag pb__law_bag (hr.mono (by decide)) hg rfl pass0 (pa_cons (pv 0) (pa_cons (pv 1) (pa_cons pe_int pa_nil)))))
      (pss_cons (ps_for PassesOwn.never rfl (pi_range1 rfl fr.range_ (pa_cons pe_int pa_nil)) (pg_name (i := 3) nd rfl (Or.inl rfl))
        (pss_cons (ps_par3 (i := 4) (j := 5) (l := 6) rfl nd rfl rfl rfl (by decide) (by decide) (by decide) rfl rfl rfl (pa_cons (pe_fn h__law_draw pb__law_draw (hr.mono (by decide)) hg rfl pass0 (pa_cons (pv 0) (pa_cons (pe_op op_add (pe_callB (k_len K) rfl fr.len_ (by decide +kernel) (pa_cons (pv 2) pa_nil)) pe_int) pa_nil))) (pa_cons (pe_fn h__law_draw pb__law_draw (hr.mono (by decide)) hg rfl pass0 (pa_cons (pv 0) (pa_cons pe_int pa_nil))) (pa_cons (pe_fn h__law_odd pb__law_odd (hr.mono (by decide)) hg rfl pass0 (pa_cons (pv 0) (pa_cons (pe_ix (k_ixL K) (pv 1) pe_int (fun _ _ => rfl)) pa_nil))) pa_nil))) rfl)
      (pss_cons (ps_set (i := 7) nd rfl (Or.inl rfl) (pe_lst (pa_cons (pe_op (k_catT K) (pe_op (k_catT K) (pe_slice (k_slT K) (pv 2) po_none (po_some (pv 4))) (pe_tup (pa_cons (pv 6) pa_nil))) (pe_slice (k_slT K) (pv 2) (po_some (pe_op op_add (pv 4) (pv 5))) po_none)) (pa_cons (k_revT K (pv 2)) (pa_cons (pe_op (k_catT K) (pv 2) (pe_slice (k_slT K) (pv 2) po_none (po_some pe_int))) (pa_cons (pe_callTy (k_list K) rfl fr.list_ (by decide +kernel) (pa_cons (pv 2) pa_nil)) (pa_cons (pe_op (k_catT K) (pv 2) (pe_tup (pa_cons (pe_tup (pa_cons (pv 6) pa_nil)) pa_nil))) pa_nil)))))))
      (pss_one (ps_if (PW.pt (pw_or (pt_not (pt_val (pe_fn h__law_one_right pb__law_one_right (hr.mono (by decide)) hg rfl pass0 (pa_cons (pe_ix (k_ixL K) (pv 7) (pe_fn h__law_draw pb__law_draw (hr.mono (by decide)) hg rfl pass0 (pa_cons (pv 0) (pa_cons pe_int pa_nil))) (fun _ _ => rfl)) (pa_cons (pv 2) pa_nil))))) (pw_or1 (pt_not (pt_val (pe_fn h__law_one_right pb__law_one_right (hr.mono (by decide)) hg rfl pass0 (pa_cons (pv 2) (pa_cons (pe_tup pa_nil) pa_nil)))))))) (pss_one (ps_ret pe_bl)) pss_nil)))))
      (pss_cons (ps_for PassesOwn.never rfl (k_iList K (pe_lst (pa_cons pe_non (pa_cons pe_int (pa_cons pe_bl (pa_cons pe_str (pa_cons pe_str (pa_cons pe_str (pa_cons pe_str (pa_cons pe_str (pa_cons (pe_tup (pa_cons pe_str pa_nil)) (pa_cons (pe_lst (pa_cons pe_str pa_nil)) (pa_cons pe_dnewK (pa_cons pe_str pa_nil)))))))))))))) (pg_name (i := 8) nd rfl (Or.inr rfl))
        (pss_one (ps_if (pt_cmpR op_ne (pe_callB (k_reprX K hg hr.units) rfl fr.repr_ (by decide +kernel) (pa_cons (pe_caught (T := tabs K) (k := 6) D__law_caught sc__law_caught pb__law_caught (Or.inl rfl) rfl (fun cdv => caught_gives (hr.mono (by decide)) hg h__law_kind h__law_fields pb__law_kind pb__law_fields (xE.glo _ (by decide +kernel)) (xE.glo _ (by decide +kernel)) (xE.glo _ (by decide +kernel)) xE.exm rfl rfl rfl rfl rfl rfl) tb__law_right hcd (tm__law_right K) hu__law_right (by rfl) hg (hr.mono (by decide)) (lamS_by (sc := defScope s__law_right) (by decide +kernel)) rfl (fun _ _ _ _ _ => rfl) (fun A outer s H E f c' hgL hrL => (pe_fn h_count_of pb_count_of (hrL.mono (by decide)) hgL rfl (passE takesL) (pa_cons (pv 2) (pa_cons (pv 8) pa_nil))))) pa_nil)) (pe_callB (k_reprX K hg hr.units) rfl fr.repr_ (by decide +kernel) (pa_cons (pe_lst (pa_cons pe_str (pa_cons (pv 8) pa_nil))) pa_nil)) (nomark _)) (pss_one (ps_ret pe_bl)) pss_nil)))
      (pss_one (ps_ret (pe_callB (k_all K rfl) rfl fr.all_ (by decide +kernel) (pa_cons (pe_lc (own := [("_law_thing_here", 9)]) (g := gName 9) (tt := tYes) rfl nd (k_iList K (pe_lst (pa_cons pe_non (pa_cons pe_int (pa_cons pe_bl (pa_cons pe_str (pa_cons pe_str (pa_cons (pe_lst pa_nil) (pa_cons pe_dnewK (pa_cons (pe_lst (pa_cons (pe_tup (pa_cons pe_str (pa_cons pe_int pa_nil))) pa_nil)) pa_nil)))))))))) (blkOk_by (own := [("_law_thing_here", 9)]) (N := N__law_right) (sc := defScope s__law_right) (by decide +kernel)) (fun _ _ _ _ _ => (pg_name (i := 9) nd rfl (Or.inl rfl))) (fun _ _ _ _ _ => pts_nil) (fun _ _ _ _ _ => (pe_fn h__law_one_right pb__law_one_right (hr.mono (by decide)) hg rfl pass0 (pa_cons (pv 9) (pa_cons (pv 2) pa_nil))))) pa_nil)))))))), ?_⟩
    try dsimp only [cxOf]
    tm_at "wp"
    refine ⟨p, 12, rfl, hp, by decide, by decide, fun n1 H1 n10 n11 s1 => ?_⟩
    tm_at "wp"
    refine ⟨p, _, rfl, s1 _ _ hp, by omega, by omega, fun a1 ws H2 ha1 s2 hs1 hw1 => ?_⟩
    have s02 := s1.trans s2
    have hp2 := s02 _ _ hp
    have T2 := hT.ext s02
    have wl : ws.length = (1 + n1).toNat := hw1.len
    have wp0 : 0 < ws.length := by omega
    have hw0 : isName ws[0] = true := hw1.nam _ (List.getElem_mem wp0)
    have hw0l := (isName_len hw0).2
    have h30' : (10 : Int) ^ 30 ≤ 10 ^ 100 := by decide
    tm_at "wp"
    refine ⟨p, a1, ws, 9, _, rfl, hp2, SqL.of hs1, hw1, by omega, by decide, by decide, fun v ps H5 s5 hd5 hB5 hm5 hl5 h305 _ => ?_⟩
    have hsm5 : ∀ d ∈ ps.map pairD, smallE d = true := small_bag (fun q hq => by
      have h1 := hw1.nam _ (hm5 q hq)
      have := (isName_len h1).2
      omega) fun q hq => Int.le_trans (h305 q hq) h30'
    have hpl : (ps.map pairD).length ≤ 12 := by rw [List.length_map]; omega
    have hok : verOk (badF 12) (bagD ps) = true := by
      show (firstBad _ _).isNone = true
      rw [bag_good hB5 (by omega)]; rfl
    obtain ⟨b, ys, rfl, hb, hy, hyl⟩ := bag_inv hd5
    have s05 := s02.trans s5
    have hp5 := s05 _ _ hp
    have hs5 := s5 _ _ hs1
    have T5 := hT.ext s05
    have hOD : OddD (bagD ps) := SmT.odd (n := 12) ⟨hsm5, hpl⟩ (by decide)
    clear hp2 T2 hs1 s2 s1
    tm_at "wp"
    refine w_onR1 ⟨by decide, by decide⟩ ?_
    refine for_go walk_range (fun i σ H' => ∃ u3 u4 u5 u6 u7 u8 u9, σ = [some (.ref p), some (.ref a1), some (.ref b), u3, u4, u5, u6, u7, u8, u9] ∧ ExtN H5 H' ∧ Tabs (tabs K) H') ⟨_, _, _, _, _, _, _, rfl, ExtN.refl _, T5⟩ (fun _ _ _ _ _ => trivial) ?_ ?_
    · rintro i y σ H4 H3 hi ⟨u3, u4, u5, u6, u7, u8, u9, rfl, x3, T3⟩ ⟨rfl, rfl⟩
      refine w_gname ?_
      have hp3 := pool_x x3 hp5
      have hb3 := dx_x x3 (dp_dx hd5)
      obtain ⟨_, ys3, e3, hq3, hy3⟩ := dx_tup_inv hb3
      cases e3
      have hyl3 := dxs_len hy3
      tm_at "wp"
      refine w_lenT hq3 ?_
      tm_at "wp"
      refine ⟨p, _, rfl, hp3, by omega, by omega, fun r H6 r0 r1 s6 => ?_⟩
      tm_at "wp"
      refine ⟨p, 2, rfl, s6 _ _ hp3, by decide, by decide, fun r' H7 r'0 r'1 s7 => ?_⟩
      have s37 := s6.trans s7
      tm_at "wp"
      refine w_ixL (SqL.of (s37 _ _ (lst_x x3 hs5))) (v := .str ws[0]) (at_of' (j := 0) rfl (by rw [List.getElem?_map, List.getElem?_eq_getElem wp0]; rfl)) ?_
      tm_at "wp"
      refine ⟨p, ws[0], rfl, s37 _ _ hp3, by omega, fun vo od H8 s8 ho hod => ?_⟩
      have s38 := s37.trans s8
      have x8 := x3.trans (ExtN.of s38)
      have hp8 := s38 _ _ hp3
      have hb8 := dx_same s38 hb3
      have T8 := T3.ext s38
      clear s38 s37 s8 s7 s6 hy3 hq3 hyl3 hb3 hp3 x3 T3
      replace hb8 : Dx K H8 (.ref b) (.tuple (ps.map pairD)) := hb8
      replace hOD : OddD (.tuple (ps.map pairD)) := hOD
      replace hok : verOk (badF 12) (.tuple (ps.map pairD)) = true := hok
      generalize hD : ps.map pairD = D at *
      have oB : ∀ d ∈ [PyData.tuple ((cutL D none (some r) ++ [od]) ++ cutL D (some (r + r')) none), .tuple D.reverse, .tuple (D ++ cutL D none (some 1)), .list D, .tuple (D ++ [.tuple [od]])], OddD d := fun d hd => by
        have hD8 : SmT 12 D := ⟨hsm5, hpl⟩
        have h1 : SmT 1 [od] := ⟨fun d hd => by rw [List.mem_singleton.mp hd]; exact hod, Nat.le_refl _⟩
        have h2 : SmT 1 [.tuple [od]] := ⟨fun d hd => by
          rw [List.mem_singleton.mp hd]
          have hz : szD (.tuple [od]) = true := szDs_all fun d hd => by rw [List.mem_singleton.mp hd]; exact smallE_sz hod
          unfold smallE
          rw [hz]
          cases od <;> rfl, Nat.le_refl _⟩
        simp only [List.mem_cons, List.not_mem_nil, or_false] at hd
        rcases hd with rfl | rfl | rfl | rfl | rfl
        · exact ((hD8.cut.app h1).app hD8.cut).odd (by decide)
        · exact SmT.odd (n := 12) ⟨fun d hd => hsm5 d (List.mem_reverse.mp hd), by rw [List.length_reverse]; exact hpl⟩ (by decide)
        · exact (hD8.app hD8.cut).odd (by decide)
        · exact odd_lst hsm5
        · exact (hD8.app h2).odd (by decide)
      tm_at "wq"
      have ev : GivesD K _ H8 (tVar 2) (.tuple D) := gd_var (σ := (((([some (V.ref p), some (V.ref a1), some (V.ref b), u3, u4, u5, u6, u7, u8, u9].set 3 (some ((fun i => V.int (0 + ↑i)) i))).set 4 (some (V.int r))).set 5 (some (V.int r'))).set 6 (some vo))) (by with_unfolding_all exact rfl) hb8
      have eo := gd_var (K := K) (σ := (((([some (V.ref p), some (V.ref a1), some (V.ref b), u3, u4, u5, u6, u7, u8, u9].set 3 (some ((fun i => V.int (0 + ↑i)) i))).set 4 (some (V.int r))).set 5 (some (V.int r'))).set 6 (some vo))) (i := 6) (by with_unfolding_all exact rfl) ho
      have q1 := cutL_len D none (some r)
      have q2 := cutL_len D (some (r + r')) none
      have q3 := cutL_len D none (some 1)
      refine gl_asg (K := K) (gl_lst (ga_cons (gd_catT (gd_catT (gd_slV ev (by with_unfolding_all exact rfl)) (gd_tup (ga_cons eo ga_nil) rfl) (by show _ + 1 ≤ 100000; omega)) (gd_slS ev (by with_unfolding_all exact rfl) (by with_unfolding_all exact rfl)) (by rw [List.length_append]; show _ + 1 + _ ≤ 100000; omega)) (ga_cons (gd_revT ev (by omega)) (ga_cons (gd_catT ev (gd_slH ev) (by omega)) (ga_cons (gd_listT ev) (ga_cons (gd_catT ev (gd_tup (ga_cons (gd_tup (ga_cons eo ga_nil) rfl) ga_nil) rfl) (by show _ + 1 ≤ 100000; omega)) ga_nil))))) rfl) fun l xs H9 s9 hl9 hx9 => ?_
      clear ev eo q1 q2 q3
      have xl : xs.length = 5 := by rw [dxs_len hx9]; rfl
      tm_at "wp"
      refine ⟨p, 5, rfl, s9 _ _ hp8, by decide, by decide, fun j HA j0 j1 sA => ?_⟩
      have hg : xs[j.toNat]? = some xs[j.toNat] := List.getElem?_eq_getElem (by omega)
      tm_at "wp"
      refine w_ixL (SqL.of (sA _ _ hl9)) (v := xs[j.toNat]) (at_of' (j := j.toNat) (by omega) hg) ?_
      obtain ⟨dB, eB, hdB⟩ := dxs_get hx9 hg
      have oB := oB dB (List.mem_of_getElem? eB)
      have s8A := s9.trans sA
      have hdBA := dx_same sA hdB
      have hbA := dx_same s8A hb8
      have hpA := s8A _ _ hp8
      have TA := T8.ext s8A
      have xA := x8.trans (ExtN.of s8A)
      generalize xs[j.toNat] = vB at *
      clear s8A hx9 hdB s9 sA hl9 hg eB xl hp8 hb8 T8 x8
      tm_at "wp"
      refine ⟨vB, .ref b, dB, _, rfl, hdBA, oB, hbA, hOD.sz, fun _ => hok, TA, fun HB xB TB => ?_⟩
      tm_at "wp"
      rename_i q0 hq0
      have sq := same_new hq0 (u := HO.tup [])
      refine ⟨.ref b, .ref q0, _, .tuple [], rfl, dx_same sq (dx_x xB hbA), hOD, .tup (SqT.of upd_same) .nil, rfl, fun _ => rfl, TB.ext sq, fun HC xC TC => ?_⟩
      tm_at "wp"
      exact ⟨_, _, _, _, _, _, _, rfl, xA.trans (xB.trans ((ExtN.of sq).trans xC)), TC⟩
    rintro σ H3 ⟨u3, u4, u5, u6, u7, u8, u9, rfl, x3, T3⟩
    have hb3 := dx_x x3 (dp_dx hd5)
    have x03 := (ExtN.of s05).trans x3
    clear T5 hs5 x3
    tm_at "wq"
    refine w_seq ?_
    refine w_for ?_
    refine w_iList ?_
    refine gl_lst (K := K) (ds := wordsN) (by tm_at "gd") rfl _ (Same.refl _) _ fun lo xo G s6 hlo hxo => ?_
    refine w_onL (SqL.of hlo) ?_
    have xol : xo.length = 12 := by rw [dxs_len hxo]; rfl
    have x0G := x03.trans (ExtN.of s6)
    have hbG := dx_same s6 hb3
    have TG := T3.ext s6
    clear x03 s6 hb3 T3
    refine for_go (walk_list (xs := xo)) (fun i σ H' => ∃ u3 u4 u5 u6 u7 u8 u9, σ = [some (.ref p), some (.ref a1), some (.ref b), u3, u4, u5, u6, u7, u8, u9] ∧ ExtN G H' ∧ Tabs (tabs K) H') ⟨_, _, _, _, _, _, _, rfl, ExtN.refl _, TG⟩ (fun i σ H' _ ⟨_, _, _, _, _, _, _, _, x, _⟩ => SqL.of (lst_x x hlo)) ?_ ?_
    · rintro i z σ G1 G2 hi ⟨u3, u4, u5, u6, u7, u8, u9, rfl, x6, T6⟩ ⟨rfl, hz⟩
      obtain ⟨dz, g1, g2⟩ := dxs_get hxo hz
      obtain ⟨w1, w2, w3⟩ := wordsN_ok dz (List.mem_of_getElem? g1)
      have g2 := dx_x x6 g2
      have hb6 := dx_x x6 hbG
      refine w_gname ?_
      tm_at "wp"
      refine w_caughtV "name" (fun y => y = z) T6 (fun l y H7 x7 T7 hl hy => ?_) (fun Hq xq Tq Q' hQ => ?_)
      rotate_left
      · tm_at "wp"
        exact ⟨.ref b, z, _, dz, rfl, dx_x xq hb6, hOD.sz, dx_x xq g2, w2, fun _ h => absurd (w1.symm.trans h) (by decide), fun _ _ dx Hr sr hdx => w_held (C := "InvalidName") (f := "name") (wd := "name") (by decide +kernel) hdx fun l Ht st hlt => hQ l _ Ht (xq.trans (ExtN.of (sr.trans st))) (Tq.ext (sr.trans st)) hlt rfl, fun h => absurd (hok.symm.trans h) (by decide)⟩
      subst hy
      tm_at "wp"
      refine w_reprX (d := .list [.str "name", dz]) (.lst (SqL.of hl) (.cons (.str _) (.cons (dx_x x7 g2) .nil))) w3 ?_
      tm_at "wp"
      rename_i M hM
      refine w_reprX (d := .list [.str "name", dz]) (.lst (SqL.of upd_same) (.cons (.str _) (.cons (dx_same (same_new hM) (dx_x x7 g2)) .nil))) w3 ?_
      tm_at "wp"
      rw [decide_eq_true rfl, if_neg (by decide)]
      tm_at "wp"
      exact ⟨_, _, _, _, _, _, _, rfl, x6.trans (x7.trans (ExtN.of (same_new hM))), T7.ext (same_new hM)⟩
    rintro σ G3 ⟨u3, u4, u5, u6, u7, u8, u9, rfl, x6, T6⟩
    have hb6 := dx_x x6 hbG
    have x06 := x0G.trans x6
    clear x0G hbG TG hlo hxo xol x6
    tm_at "wx"
    refine w_ret (w_CB (w_cons (w_lc (w_iList ?_))))
    refine gl_lst (K := K) (ds := thingsN) (by tm_at "gd") rfl _ (Same.refl _) _ fun lo xo G s6 hlo hxo => ?_
    refine w_onL (SqL.of hlo) ?_
    intro D0 hD
    have xol : xo.length = 8 := by rw [dxs_len hxo]; rfl
    have hbG := dx_same s6 hb6
    have TG := T6.ext s6
    refine lc_mapX (walk_list (xs := xo)) (tabs K) (by omega) (fun i y => y = .bl true) hD TG (fun _ x => SqL.of (lst_x x hlo)) ?_ ?_ mono_gname
    · rintro j z G1 G2 hj x7 T7 ⟨rfl, hz⟩ Qy hq
      obtain ⟨d, g1, g2⟩ := dxs_get hxo hz
      refine w_gname ⟨rfl, ?_⟩
      tm_at "wp"
      refine ⟨z, .ref b, d, _, rfl, dx_x x7 g2, thingsN_ok d (List.mem_of_getElem? g1), dx_x x7 hbG, hOD.sz, fun _ => hok, T7, fun H' x' T' => ?_⟩
      exact hq _ _ x' T' rfl
    intro acc2 H7 x7 T7 ha2 hl2 hf2
    have e : acc2 = (List.replicate acc2.length true).map V.bl := by
      refine List.ext_getElem? fun i => ?_
      cases z : acc2[i]? with
      | none => rw [List.getElem?_eq_none (by simpa using List.getElem?_eq_none_iff.mp z)]
      | some y =>
        rw [hf2 i y z]
        obtain ⟨h, _⟩ := List.getElem?_eq_some_iff.mp z
        simp [h]
    rw [e] at ha2
    tm_at "wp"
    refine w_all (SqL.of ha2) ?_
    rw [show (List.replicate acc2.length true).all id = true by simp]
    exact k _ (x06.trans ((ExtN.of s6).trans x7)) T7
theorem ok__law_created_right {P : Program} {w : World} {K : PySem.W.Frag} {mg : Str → Option Value} {base : Heap} (fr : Fre mg) (x0_NothingToUndo : Exc0 K mg "NothingToUndo") (x0_Busy : Exc0 K mg "Busy") (y_InvalidOrder : HasXK P w K mg base "InvalidOrder" "index") (y_InvalidSummary : HasXK P w K mg base "InvalidSummary" "index") (y_InvalidCounts : HasXK P w K mg base "InvalidCounts" "index") (y_InvalidTimes : HasXK P w K mg base "InvalidTimes" "times") (y_InvalidName : HasXK P w K mg base "InvalidName" "name") (y_InvalidCapacity : HasXK P w K mg base "InvalidCapacity" "capacity") (y_InvalidSlots : HasXK P w K mg base "InvalidSlots" "slots") (y_InvalidNumber : HasXK P w K mg base "InvalidNumber" "number") (y_InvalidSize : HasXK P w K mg base "InvalidSize" "size") (y_InvalidText : HasXK P w K mg base "InvalidText" "text") (y_InvalidPlan : HasXK P w K mg base "InvalidPlan" "index") (y_CapacitiesDiffer : HasXK P w K mg base "CapacitiesDiffer" "capacity") (y_NotASummary : HasXK P w K mg base "NotASummary" "value") (y_InvalidLine : HasXK P w K mg base "InvalidLine" "line") (y_InvalidAction : HasXK P w K mg base "InvalidAction" "index") (y_InvalidIndex : HasXK P w K mg base "InvalidIndex" "index") (y_TooManyActions : HasXK P w K mg base "TooManyActions" "found") (y_TooManyNames : HasXK P w K mg base "TooManyNames" "found") (D : Dfd K mg "_law_created_right" s__law_created_right)
    (h__law_read_errors : Has P w K mg base CX0 3 "_law_read_errors" s__law_read_errors ["_law_made"] (sp__law_read_errors K))
    (h__law_created_by_name : Has P w K mg base CX0 4 "_law_created_by_name" s__law_created_by_name [] (sp__law_created_by_name K)) : Has P w K mg base CX0 5 "_law_created_right" s__law_created_right [] (sp__law_created_right K) := by
  refine D.has sc__law_created_right (fun vs H Q E h => ?_) (fun cdv A outer s H vs Q E hr hg h => ?_)
  · obtain ⟨rfl, _⟩ := h; rfl
  · obtain ⟨rfl, k⟩ := h
    have nd := sc__law_created_right.nd
    refine ⟨_, PSs.nox (pss_cons (ps_set (i := 0) nd rfl (Or.inl rfl) (pe_lst (pa_cons (pe_xv K y_InvalidCapacity (hr.mono (by decide)) rfl pe_int) (pa_cons (pe_xv K y_InvalidName (hr.mono (by decide)) rfl pe_int) (pa_cons (pe_xv K y_InvalidTimes (hr.mono (by decide)) rfl pe_int) (pa_cons (pe_xv K y_InvalidCounts (hr.mono (by decide)) rfl pe_int) (pa_cons (pe_xv K y_InvalidSummary (hr.mono (by decide)) rfl pe_int) (pa_cons (pe_xv K y_InvalidOrder (hr.mono (by decide)) rfl pe_int) pa_nil))))))))
      (pss_cons (ps_set (i := 0) nd rfl (Or.inl rfl) (pe_op op_cat (pv 0) (pe_lst (pa_cons (pe_xv K y_InvalidPlan (hr.mono (by decide)) rfl pe_int) (pa_cons (pe_xv K y_InvalidText (hr.mono (by decide)) rfl pe_int) (pa_cons (pe_xv K y_InvalidSize (hr.mono (by decide)) rfl pe_int) (pa_cons (pe_xv K y_InvalidNumber (hr.mono (by decide)) rfl pe_int) (pa_cons (pe_xv K y_InvalidSlots (hr.mono (by decide)) rfl pe_int) pa_nil))))))))
      (pss_cons (ps_set (i := 0) nd rfl (Or.inl rfl) (pe_op op_cat (pv 0) (pe_lst (pa_cons (pe_xv K y_InvalidIndex (hr.mono (by decide)) rfl pe_int) (pa_cons (pe_xv K y_InvalidAction (hr.mono (by decide)) rfl pe_non) (pa_cons (pe_xv K y_InvalidLine (hr.mono (by decide)) rfl pe_int) (pa_cons (pe_xv K y_NotASummary (hr.mono (by decide)) rfl pe_int) (pa_cons (pe_xv K y_CapacitiesDiffer (hr.mono (by decide)) rfl pe_int) pa_nil))))))))
      (pss_cons (ps_set (i := 0) nd rfl (Or.inl rfl) (pe_op op_cat (pv 0) (pe_lst (pa_cons (pe_xv0 K x0_Busy rfl) (pa_cons (pe_xv0 K x0_NothingToUndo rfl) (pa_cons (pe_xv K y_TooManyNames (hr.mono (by decide)) rfl pe_int) (pa_cons (pe_xv K y_TooManyActions (hr.mono (by decide)) rfl pe_int) (pa_cons (pe_xvK K y_InvalidName (hr.mono (by decide)) rfl pe_int) pa_nil))))))))
      (pss_cons (ps_set (i := 1) nd rfl (Or.inl rfl) pe_str)
      (pss_cons (ps_set (i := 1) nd rfl (Or.inl rfl) (pe_op o_addS (pv 1) pe_str))
      (pss_cons (ps_set (i := 1) nd rfl (Or.inl rfl) (pe_op o_addS (pv 1) pe_str))
      (pss_cons (ps_set (i := 2) nd rfl (Or.inl rfl) (pe_fn h__law_read_errors pb__law_read_errors (hr.mono (by decide)) hg rfl pass0 (pa_cons (pe_fn0 h__law_created_by_name pb__law_created_by_name (hr.mono (by decide)) hg rfl pass0) pa_nil)))
      (pss_one (ps_ret (pe_and (pe_cmpR op_eq (pe_fn h__law_read_errors pb__law_read_errors (hr.mono (by decide)) hg rfl pass0 (pa_cons (pv 0) pa_nil)) (pv 1) (nomark _)) (pe_one (pe_cmpR op_eq (pv 2) (pe_fn h__law_read_errors pb__law_read_errors (hr.mono (by decide)) hg rfl pass0 (pa_cons (pe_slice (k_slL K) (pv 0) po_none (po_some pe_int)) pa_nil)) (nomark _)))))))))))))), ?_⟩
    try dsimp only [cxOf]
    refine w_seq (w_asg (w_lstE (qs := errsA) (by tm_at "ge") (by decide) fun l1 xs1 H1 s1 hl1 he1 => ?_))
    tm_at "wq"
    refine w_seq (w_asg (w_catE (qs2 := errsB) (by with_unfolding_all exact rfl) hl1 he1 (by decide) (by tm_at "ge") (by decide) fun l2 xs2 H2 s2 hl2 he2 => ?_))
    tm_at "wq"
    refine w_seq (w_asg (w_catE (qs2 := errsC) (by with_unfolding_all exact rfl) hl2 he2 (by decide) (by tm_at "ge") (by decide) fun l3 xs3 H3 s3 hl3 he3 => ?_))
    tm_at "wq"
    refine w_seq (w_asg (w_catE (qs2 := errsD) (by with_unfolding_all exact rfl) hl3 he3 (by decide) (by tm_at "ge") (by decide) fun l4 xs4 H4 s4 hl4 he4 => ?_))
    tm_at "wp"
    refine w_addS (by rw [sizeLine_eq]; decide +kernel) ?_
    tm_at "wp"
    refine w_addS (by rw [sizeLine_eq]; decide +kernel) ?_
    tm_at "wp"
    refine ⟨rfl, fun l5 xs5 H5 s5 hl5 he5 => ?_⟩
    tm_at "wp"
    refine ⟨l5, xs5, _, rfl, SqL.of hl5, he5, by decide, by decide +kernel, by decide +kernel, fun H6 s6 => ?_⟩
    tm_at "wp"
    have s46 := s5.trans s6
    refine ⟨l4, xs4, _, rfl, SqL.of (s46 _ _ hl4), he4.same s46, by decide, by decide +kernel, by decide +kernel, fun H7 s7 => ?_⟩
    have s47 := s46.trans s7
    tm_at "wp"
    rw [decide_eq_true (by decide +kernel), if_pos rfl]
    tm_at "wp"
    refine w_slL (SqL.of (s47 _ _ hl4)) fun p hp => ?_
    tm_at "wp"
    have s8 := s47.trans (same_new hp (u := HO.lst (cutV xs4 none (some 16))))
    have ec : cutV xs4 none (some 16) = xs4.take 16 := cutV_take (k := 16)
    refine ⟨p, xs4.take 16, (((errsA ++ errsB) ++ errsC) ++ errsD).take 16, rfl, SqL.of (by rw [upd_same, ec]), (he4.same s8).take 16, by decide, by decide +kernel, by decide +kernel, fun H9 s9 => ?_⟩
    tm_at "wp"
    rw [decide_eq_true (by decide +kernel)]
    exact k _ (((((s1.trans s2).trans s3).trans s4).trans s8).trans s9)
theorem ok__law_read_errors {P : Program} {w : World} {K : PySem.W.Frag} {mg : Str → Option Value} {base : Heap} (fr : Fre mg) (D : Dfd K mg "_law_read_errors" s__law_read_errors)
    (h__law_kind : HasP P w K mg base 1 "_law_kind" s__law_kind ["_law_e"] (sp__law_kind K))
    (h__law_fields : HasP P w K mg base 2 "_law_fields" s__law_fields ["_law_e"] (sp__law_fields K)) : Has P w K mg base CX0 3 "_law_read_errors" s__law_read_errors ["_law_made"] (sp__law_read_errors K) := by
  refine D.has sc__law_read_errors (fun vs H Q E h => ?_) (fun cdv A outer s H vs Q E hr hg h => ?_)
  · obtain ⟨l, xs, qs, rfl, _⟩ := h; rfl
  · obtain ⟨l, xs, qs, rfl, hl, hx, hn, hn2, hn3, k⟩ := h
    have nd := sc__law_read_errors.nd
    refine ⟨_, PSs.nox (pss_cons (ps_set (i := 1) nd rfl (Or.inl rfl) (pe_lst pa_nil))
      (pss_cons (ps_for PassesOwn.never rfl (k_iList K (pv 0)) (pg_name (i := 2) nd rfl (Or.inl rfl))
        (pss_cons (ps_expr (k_bm K PySem.F.plainAttrs_list PySem.F.slot_list_append PySem.F.type_list_append mt_append (pv 1) (pa_cons (pe_fnV h__law_kind pb__law_kind (roomH hr (by decide)) hg rfl (pa_cons (pv 2) pa_nil)) pa_nil)))
      (pss_one (ps_expr (k_bm K PySem.F.plainAttrs_list PySem.F.slot_list_extend PySem.F.type_list_extend mt_extend (pv 1) (pa_cons (pe_lc (own := [("_law_field", 3)]) (g := gName 3) (tt := tYes) rfl nd (k_iList K (pe_fnV h__law_fields pb__law_fields (roomH hr (by decide)) hg rfl (pa_cons (pv 2) pa_nil))) (blkOk_by (own := [("_law_field", 3)]) (N := N__law_read_errors) (sc := defScope s__law_read_errors) (by decide +kernel)) (fun _ _ _ _ _ => (pg_name (i := 3) nd rfl (Or.inl rfl))) (fun _ _ _ _ _ => pts_nil) (fun _ _ _ _ _ => (pe_callB (k_reprX K hg hr.units) rfl fr.repr_ (by decide +kernel) (pa_cons (pv 3) pa_nil)))) pa_nil))))))
      (pss_one (ps_ret (k_join K pe_str (pv 1)))))), ?_⟩
    try dsimp only [cxOf]
    have hxl := hx.len
    tm_at "wp"
    rename_i R hR
    have s0 : Same H (upd H R (.lst [])) := same_new hR
    refine w_onL (s0.seq hl) ?_
    refine for_go (walk_list (xs := xs)) (fun i σ H' => ∃ u w, σ = [some (.ref l), some (.ref R), u, w] ∧ Same H H' ∧ H' R = some (.lst (((qs.take i).flatMap xRow).map V.str))) ⟨none, none, rfl, s0, upd_same⟩ (fun i σ H' _ ⟨_, _, _, s, _⟩ => s.seq hl) ?_ ?_
    · rintro i v σ H1 H2 hi ⟨u, w, rfl, s1, hR1⟩ ⟨rfl, hv⟩
      obtain ⟨q, y, e1, e2, e3, e4, e5⟩ := (hx.same s1).get hv
      refine w_gname ?_
      tm_at "wp"
      refine w_tyL hR1 ?_
      refine w_cons ?_
      refine w_kindC (by with_unfolding_all exact rfl) e3 e2 fun H3 s3 => ?_
      have s03 := s1.trans s3
      tm_at "wp"
      have hlen : (((qs.take i).flatMap xRow).map V.str).length ≤ 1000 := by
        have h1 : ((qs.take i).flatMap xRow).length ≤ (qs.flatMap xRow).length := by
          conv => rhs; rw [← List.take_append_drop i qs, List.flatMap_append, List.length_append]
          omega
        rw [List.length_map]; omega
      refine w_append (s3 _ _ hR1) (by rw [sizeLine_eq]; omega) ?_
      have s4 : Same H (upd H3 R (.lst (((qs.take i).flatMap xRow).map V.str ++ [.str q.1.2.2]))) := same_mut s03 hR
      have hR4 := @upd_same H3 R (.lst (((qs.take i).flatMap xRow).map V.str ++ [.str q.1.2.2]))
      generalize upd H3 R (.lst (((qs.take i).flatMap xRow).map V.str ++ [.str q.1.2.2])) = H4 at *
      obtain ⟨q2, y2, e12, e22, e32, e42, e52⟩ := (hx.same s4).get hv
      rw [e1] at e12
      cases e12
      tm_at "wp"
      refine w_tyL hR4 ?_
      tm_at "wp"
      refine w_fieldsC (by with_unfolding_all exact rfl) e32 e22 fun l4 H5 s5 hl5 => ?_
      refine w_onL (SqL.of hl5) ?_
      intro D0 hD
      have hf1 : (fldE q.1 y2).length ≤ 1 := by unfold fldE; split <;> simp
      refine lc_map (walk_list (xs := fldE q.1 y2)) (n := (fldE q.1 y2).length) (by omega) (fun i y => y = .str q.2.shown) hD (fun _ s => s.seq (SqL.of hl5)) ?_ ?_ mono_gname
      · rintro j z G1 G2 hj sg ⟨rfl, hz⟩ Qy hq
        have ez : z = y2 := by
          have hm := List.mem_of_getElem? hz
          unfold fldE at hm
          split at hm
          · cases hm
          · exact List.mem_singleton.mp hm
        subst ez
        refine w_gname ⟨rfl, ?_⟩
        tm_at "wp"
        exact w_reprX (dx_same (s5.trans sg) e42) e52 (hq _ _ (Same.refl _) rfl)
      intro acc H6 s6 _ hacc hla hf
      have eacc : acc = List.replicate (fldE q.1 y2).length (.str q.2.shown) := by
        rw [← hla]
        exact List.eq_replicate_iff.mpr ⟨rfl, fun b hb => by
          obtain ⟨n, hn, e⟩ := List.mem_iff_getElem.mp hb
          exact hf n b (by rw [← e]; exact List.getElem?_eq_getElem hn)⟩
      have s46 := s5.trans s6
      tm_at "wp"
      refine ⟨R, _, _, _, rfl, rfl, s46 _ _ hR4, hacc, ?_, ?_⟩
      · rw [List.length_append, eacc, List.length_replicate, sizeLine_eq]
        show _ + 1 + _ ≤ _
        omega
      tm_at "wp"
      refine ⟨_, _, rfl, same_mut (s4.trans s46) hR, ?_⟩
      rw [upd_same, take_succ_snoc e1, List.flatMap_append, List.map_append, List.append_assoc]
      congr 2
      rw [eacc]
      congr 1
      show _ = (xRow q ++ []).map V.str
      rw [List.append_nil]
      unfold xRow fldE
      split <;> rfl
    · rintro σ H1 ⟨u, w, rfl, s1, hR1⟩
      rw [List.take_of_length_le (by omega)] at hR1
      tm_at "wp"
      refine w_join (SqL.of hR1) (by rw [show (Str.length " ") = 1 from rfl]; exact hn3) ?_
      tm_at "wp"
      exact k _ s1
theorem ok__law_created_by_name {P : Program} {w : World} {K : PySem.W.Frag} {mg : Str → Option Value} {base : Heap} (fr : Fre mg) (y_InvalidCounts : HasXK P w K mg base "InvalidCounts" "index") (y_InvalidTimes : HasXK P w K mg base "InvalidTimes" "times") (y_InvalidName : HasXK P w K mg base "InvalidName" "name") (y_InvalidCapacity : HasXK P w K mg base "InvalidCapacity" "capacity") (y_InvalidText : HasXK P w K mg base "InvalidText" "text") (y_InvalidPlan : HasXK P w K mg base "InvalidPlan" "index") (y_InvalidOrder : HasXK P w K mg base "InvalidOrder" "index") (y_InvalidSummary : HasXK P w K mg base "InvalidSummary" "index") (y_InvalidIndex : HasXK P w K mg base "InvalidIndex" "index") (y_InvalidSlots : HasXK P w K mg base "InvalidSlots" "slots") (y_InvalidNumber : HasXK P w K mg base "InvalidNumber" "number") (y_InvalidSize : HasXK P w K mg base "InvalidSize" "size") (y_NotASummary : HasXK P w K mg base "NotASummary" "value") (y_InvalidLine : HasXK P w K mg base "InvalidLine" "line") (y_InvalidAction : HasXK P w K mg base "InvalidAction" "index") (y_CapacitiesDiffer : HasXK P w K mg base "CapacitiesDiffer" "capacity") (D : Dfd K mg "_law_created_by_name" s__law_created_by_name) : Has P w K mg base CX0 4 "_law_created_by_name" s__law_created_by_name [] (sp__law_created_by_name K) := by
  refine D.has sc__law_created_by_name (fun vs H Q E h => ?_) (fun cdv A outer s H vs Q E hr hg h => ?_)
  · obtain ⟨rfl, _⟩ := h; rfl
  · obtain ⟨rfl, k⟩ := h
    have nd := sc__law_created_by_name.nd
    refine ⟨_, PSs.nox (pss_cons (ps_set (i := 0) nd rfl (Or.inl rfl) (pe_lst (pa_cons (pe_xvK K y_InvalidCapacity (hr.mono (by decide)) rfl pe_int) (pa_cons (pe_xvK K y_InvalidName (hr.mono (by decide)) rfl pe_int) (pa_cons (pe_xvK K y_InvalidTimes (hr.mono (by decide)) rfl pe_int) (pa_cons (pe_xvK K y_InvalidCounts (hr.mono (by decide)) rfl pe_int) pa_nil))))))
      (pss_cons (ps_set (i := 0) nd rfl (Or.inl rfl) (pe_op op_cat (pv 0) (pe_lst (pa_cons (pe_xvK K y_InvalidSummary (hr.mono (by decide)) rfl pe_int) (pa_cons (pe_xvK K y_InvalidOrder (hr.mono (by decide)) rfl pe_int) (pa_cons (pe_xvK K y_InvalidPlan (hr.mono (by decide)) rfl pe_int) (pa_cons (pe_xvK K y_InvalidText (hr.mono (by decide)) rfl pe_int) pa_nil)))))))
      (pss_cons (ps_set (i := 0) nd rfl (Or.inl rfl) (pe_op op_cat (pv 0) (pe_lst (pa_cons (pe_xvK K y_InvalidSize (hr.mono (by decide)) rfl pe_int) (pa_cons (pe_xvK K y_InvalidNumber (hr.mono (by decide)) rfl pe_int) (pa_cons (pe_xvK K y_InvalidSlots (hr.mono (by decide)) rfl pe_int) (pa_cons (pe_xvK K y_InvalidIndex (hr.mono (by decide)) rfl pe_int) pa_nil)))))))
      (pss_cons (ps_set (i := 0) nd rfl (Or.inl rfl) (pe_op op_cat (pv 0) (pe_lst (pa_cons (pe_xvK K y_InvalidAction (hr.mono (by decide)) rfl pe_non) (pa_cons (pe_xvK K y_InvalidLine (hr.mono (by decide)) rfl pe_int) (pa_cons (pe_xvK K y_NotASummary (hr.mono (by decide)) rfl pe_int) pa_nil))))))
      (pss_one (ps_ret (pe_op op_cat (pv 0) (pe_lst (pa_cons (pe_xvK K y_CapacitiesDiffer (hr.mono (by decide)) rfl pe_int) pa_nil))))))))), ?_⟩
    try dsimp only [cxOf]
    refine w_seq (w_asg (w_lstE (qs := [(("InvalidCapacity", "capacity", "capacity"), .int 1), (("InvalidName", "name", "name"), .int 2), (("InvalidTimes", "times", "times"), .int 3), (("InvalidCounts", "index", "counts"), .int 4)]) (by tm_at "ge") (by decide) fun l1 xs1 H1 s1 hl1 he1 => ?_))
    tm_at "wq"
    refine w_seq (w_asg (w_catE (qs2 := [(("InvalidSummary", "index", "summary"), .int 5), (("InvalidOrder", "index", "order"), .int 6), (("InvalidPlan", "index", "plan"), .int 7), (("InvalidText", "text", "text"), .int 8)]) (by with_unfolding_all exact rfl) hl1 he1 (by decide) (by tm_at "ge") (by decide) fun l2 xs2 H2 s2 hl2 he2 => ?_))
    tm_at "wq"
    refine w_seq (w_asg (w_catE (qs2 := [(("InvalidSize", "size", "size"), .int 9), (("InvalidNumber", "number", "number"), .int 10), (("InvalidSlots", "slots", "slots"), .int 11), (("InvalidIndex", "index", "index"), .int 12)]) (by with_unfolding_all exact rfl) hl2 he2 (by decide) (by tm_at "ge") (by decide) fun l3 xs3 H3 s3 hl3 he3 => ?_))
    tm_at "wq"
    refine w_seq (w_asg (w_catE (qs2 := [(("InvalidAction", "index", "action"), .none), (("InvalidLine", "line", "line"), .int 14), (("NotASummary", "value", "notsummary"), .int 15)]) (by with_unfolding_all exact rfl) hl3 he3 (by decide) (by tm_at "ge") (by decide) fun l4 xs4 H4 s4 hl4 he4 => ?_))
    tm_at "wx"
    refine w_ret (w_catE (qs2 := [(("CapacitiesDiffer", "capacity", "differ"), .int 16)]) (by with_unfolding_all exact rfl) hl4 he4 (by decide) (by tm_at "ge") (by decide) fun l5 xs5 H5 s5 hl5 he5 => ?_)
    exact k _ _ _ ((((s1.trans s2).trans s3).trans s4).trans s5) hl5 he5
theorem ok_law {P : Program} {w : World} {K : PySem.W.Frag} {mg : Str → Option Value} {base : Heap} (fr : Fre mg) (D : Dfd K mg "law" s_law)
    (h__law_one_right : Has P w K mg base CX0 9 "_law_one_right" s__law_one_right ["_law_bag_here", "_law_good"] (sp__law_one_right K))
    (h__law_created_right : Has P w K mg base CX0 5 "_law_created_right" s__law_created_right [] (sp__law_created_right K))
    (h__law_right : Has P w K mg base CX0 10 "_law_right" s__law_right ["_law_pool_here"] (sp__law_right K))
    (h__law_pool : Has P w K mg base CX0 1 "_law_pool" s__law_pool ["_law_cell_here"] (sp__law_pool K))
    (h__law_cell : Has P w K mg base CX0 1 "_law_cell" s__law_cell ["_law_script", "_law_k"] (sp__law_cell K)) : Has P w K mg base CX0 11 "law" s_law ["_law_script"] (sp_law K) := by
  refine D.has sc_law (fun vs H Q E h => ?_) (fun cdv A outer s H vs Q E hr hg h => ?_)
  · obtain ⟨a, ns, rfl, _⟩ := h; rfl
  · obtain ⟨a, ns, rfl, hs0, hn, hT0, k⟩ := h
    have nd := sc_law.nd
    refine ⟨_, PSs.nox (pss_cons (ps_set (i := 1) nd rfl (Or.inl rfl) (pe_callTy (k_tuple K) rfl fr.tuple_ (by decide +kernel) (pa_cons (pe_lc (own := [("_law_word", 2)]) (g := gName 2) (tt := tYes) rfl nd (pi_str pe_str) (blkOk_by (own := [("_law_word", 2)]) (N := N_law) (sc := defScope s_law) (by decide +kernel)) (fun _ _ _ _ _ => (pg_name (i := 2) nd rfl (Or.inl rfl))) (fun _ _ _ _ _ => pts_nil) (fun _ _ _ _ _ => (pe_tup (pa_cons (pv 2) (pa_cons pe_int pa_nil))))) pa_nil)))
      (pss_cons (ps_if (PW.pt (pw_or (pt_not (pt_val (pe_fn0 h__law_created_right pb__law_created_right (hr.mono (by decide)) hg rfl pass0))) (pw_or (pt_not (pt_val (pe_fn h__law_one_right pb__law_one_right (hr.mono (by decide)) hg rfl pass0 (pa_cons (pv 1) (pa_cons (pe_tup pa_nil) pa_nil))))) (pw_or1 (pt_not (pt_val (pe_fn h__law_one_right pb__law_one_right (hr.mono (by decide)) hg rfl pass0 (pa_cons (pe_slice (k_slT K) (pv 1) po_none (po_some pe_int)) (pa_cons (pe_tup pa_nil) pa_nil))))))))) (pss_one (ps_ret pe_bl)) pss_nil)
      (pss_cons (ps_if (PW.pt (pw_or (pt_not (pt_val (pe_fn h__law_one_right pb__law_one_right (hr.mono (by decide)) hg rfl pass0 (pa_cons (pe_op (k_catT K) (pe_tup (pa_cons pe_non pa_nil)) (pv 1)) (pa_cons (pe_tup pa_nil) pa_nil))))) (pw_or1 (pt_not (pt_val (pe_fn h__law_one_right pb__law_one_right (hr.mono (by decide)) hg rfl pass0 (pa_cons (pe_op (k_catT K) (pe_op (k_catT K) (pe_slice (k_slT K) (pv 1) po_none (po_some pe_int)) (pe_tup (pa_cons (pe_tup (pa_cons pe_str (pa_cons pe_int pa_nil))) pa_nil))) (pv 1)) (pa_cons (pe_tup pa_nil) pa_nil)))))))) (pss_one (ps_ret pe_bl)) pss_nil)
      (pss_one (ps_ret (pe_callB (k_all K rfl) rfl fr.all_ (by decide +kernel) (pa_cons (pe_lc (own := [("_law_k", 3)]) (g := gName 3) (tt := tYes) rfl nd (pi_range1 rfl fr.range_ (pa_cons (pe_callB (c_max2 rfl) rfl fr.max_ (by decide +kernel) (pa_cons pe_int (pa_cons (pe_callB (c_min2 rfl) rfl fr.min_ (by decide +kernel) (pa_cons (pe_callB (k_len K) rfl fr.len_ (by decide +kernel) (pa_cons (pv 0) pa_nil)) (pa_cons pe_int pa_nil))) pa_nil))) pa_nil)) (blkOk_by (own := [("_law_k", 3)]) (N := N_law) (sc := defScope s_law) (by decide +kernel)) (fun _ _ _ _ _ => (pg_name (i := 3) nd rfl (Or.inl rfl))) (fun _ _ _ _ _ => pts_nil) (fun _ _ _ _ _ => (pe_fn h__law_right pb__law_right (hr.mono (by decide)) hg rfl pass0 (pa_cons (pe_fn h__law_pool pb__law_pool (hr.mono (by decide)) hg rfl pass0 (pa_cons (pe_fn h__law_cell pb__law_cell (hr.mono (by decide)) hg rfl pass0 (pa_cons (pv 0) (pa_cons (pv 3) pa_nil))) pa_nil)) pa_nil)))) pa_nil))))))), ?_⟩
    try dsimp only [cxOf]
    tm_at "wp"
    intro D0 hD0
    refine lc_dat K (walk_str (z := "abcdefghijklm")) (by decide +kernel) (fun i d => ∃ x, (signs1 "abcdefghijklm")[i]? = some x ∧ d = pairD (x, 1)) hD0 (fun _ _ => trivial) ?_ ?_ mono_gname
    · rintro j y G3 G4 hj s3 ⟨rfl, ch, hch, rfl⟩ Qy2 hq2
      refine w_gname ⟨rfl, ?_⟩
      tm_at "wp"
      rename_i T hT
      refine hq2 _ _ _ (same_new hT) (pair_mk (SqT.of upd_same)) rfl ⟨⟨#[ch]⟩, ?_, rfl⟩
      unfold signs1
      rw [List.getElem?_map, Array.getElem?_toList, hch]; rfl
    intro acc ds H1 s1 _ hacc hdp _ hdl hR
    have eds : ds = thirteen := by
      unfold thirteen bag13
      rw [List.map_map]
      exact ds_eq (by rw [hdl]; decide +kernel) hR
    rw [eds] at hdp
    tm_at "wp"
    refine w_tupL (SqL.of hacc) ?_
    intro T hT
    have dth : Dx K (upd H1 T (.tup acc)) (.ref T) (.tuple thirteen) := .tup (SqT.of upd_same) (dps_dx (dps_same (same_new hT) hdp))
    have s1T := s1.trans (same_new hT (u := HO.tup acc))
    generalize upd H1 T (.tup acc) = H2 at *
    have hs2 := s1T.seq hs0
    have T2 := hT0.ext s1T
    clear s1T s1 hdp hacc hR hdl hD0 hs0 hT0
    tm_at "wp"
    refine ⟨rfl, fun H3 s3 => ?_⟩
    tm_at "wp"
    rename_i p0 hp0
    have z0 := s3.trans (same_new hp0 (u := HO.tup []))
    refine ⟨.ref T, .ref p0, _, .tuple [], rfl, dx_same z0 dth, thirteen_sm.odd (by decide), .tup (SqT.of upd_same) .nil, rfl, fun _ => nil_ok, T2.ext z0, fun H4 x4 T4 => ?_⟩
    replace x4 : ExtN H2 H4 := (ExtN.of z0).trans x4
    clear hp0 z0 s3
    tm_at "wp"
    refine w_slX (dx_x x4 dth) fun v6 H6 s6 d6 => ?_
    tm_at "wp"
    rename_i p1 hp1
    have z1 := same_new hp1 (u := HO.tup [])
    refine ⟨v6, .ref p1, _, .tuple [], rfl, dx_same z1 d6, thirteen_sm.cut.odd (by decide), .tup (SqT.of upd_same) .nil, rfl, fun _ => nil_ok, T4.ext (s6.trans z1), fun H7 x7 T7 => ?_⟩
    replace x7 : ExtN H2 H7 := x4.trans ((ExtN.of (s6.trans z1)).trans x7)
    clear hp1 z1 s6 d6 x4 T4
    tm_at "wp"
    rename_i p2 hp2
    have z2 := same_new hp2 (u := HO.tup [.non])
    refine w_catX (ds := [.none]) (.tup (SqT.of upd_same) (.cons .non .nil)) (dx_same z2 (dx_x x7 dth)) (by decide +kernel) fun v8 H8 s8 d8 => ?_
    tm_at "wp"
    rename_i p3 hp3
    have z3 := same_new hp3 (u := HO.tup [])
    have h1 : SmT 1 [PyData.none] := ⟨fun d hd => by rw [List.mem_singleton.mp hd]; rfl, Nat.le_refl _⟩
    refine ⟨v8, .ref p3, _, .tuple [], rfl, dx_same z3 d8, (h1.app thirteen_sm).odd (by decide), .tup (SqT.of upd_same) .nil, rfl, fun _ => nil_ok, T7.ext ((z2.trans s8).trans z3), fun H9 x9 T9 => ?_⟩
    replace x9 : ExtN H2 H9 := x7.trans ((ExtN.of ((z2.trans s8).trans z3)).trans x9)
    clear hp2 hp3 z2 z3 s8 d8 x7 T7
    tm_at "wp"
    refine w_slX (dx_x x9 dth) fun va Ha sa da => ?_
    tm_at "wp"
    rename_i p4 hp4 p5 hp5
    have z4 := (same_new hp4 (u := HO.tup [.str "a", .int 1])).trans (same_new hp5 (u := HO.tup [.ref p4]))
    refine w_catX (es := [.tuple [.str "a", .int 1]]) (dx_same z4 da) (.tup (SqT.of upd_same) (.cons (.tup (SqT.of (hp_new (@upd_same Ha p4 (HO.tup [.str "a", .int 1])) hp5)) (.cons (.str _) (.cons (.int _) .nil))) .nil)) (by decide +kernel) fun vb Hb sb db => ?_
    tm_at "wp"
    refine w_catX db (dx_same ((sa.trans z4).trans sb) (dx_x x9 dth)) (by decide +kernel) fun vc Hc sc dc => ?_
    tm_at "wp"
    rename_i p6 hp6
    have z6 := same_new hp6 (u := HO.tup [])
    have h2 : SmT 1 [PyData.tuple [.str "a", .int 1]] := ⟨fun d hd => by rw [List.mem_singleton.mp hd]; decide +kernel, Nat.le_refl _⟩
    have zall := (((sa.trans z4).trans sb).trans sc).trans z6
    refine ⟨vc, .ref p6, _, .tuple [], rfl, dx_same z6 dc, ((thirteen_sm.cut.app h2).app thirteen_sm).odd (by decide), .tup (SqT.of upd_same) .nil, rfl, fun _ => nil_ok, T9.ext zall, fun H3 x3 hT => ?_⟩
    replace x3 : ExtN H2 H3 := x9.trans ((ExtN.of zall).trans x3)
    have hs := sql_x x3 hs2
    clear x3 hs2 T2 dth zall z6 hp6 dc sc db sb z4 hp4 hp5 da sa x9 T9
    tm_at "wp"
    refine w_lenL hs ?_
    tm_at "wp"
    rw [List.length_map]
    refine w_onR1 ⟨by split <;> split <;> omega, by split <;> split <;> omega⟩ ?_
    intro D1 hD1
    refine lc_mapX walk_range (tabs K) (n := _) (by split <;> split <;> omega) (fun i y => y = .bl true) hD1 hT (fun _ _ => trivial) ?_ ?_ mono_gname
    · rintro i y H6 H7 hi x6 T6 ⟨rfl, rfl⟩ Qy hq
      refine w_gname ⟨rfl, ?_⟩
      tm_at "wp"
      refine ⟨a, ns, _, rfl, sql_x x6 hs, by omega, by omega, by revert hi; split <;> split <;> omega, fun n H8 s8 => ?_⟩
      tm_at "wp"
      refine ⟨n, rfl, fun p H9 hp s9 hpp => ?_⟩
      tm_at "wp"
      refine ⟨p, rfl, hpp, T6.ext (s8.trans s9), fun H10 x10 T10 => ?_⟩
      exact hq _ _ ((ExtN.of (s8.trans s9)).trans x10) T10 rfl
    · intro acc2 H6 x6 T6 ha2 hl2 hf2
      have e : acc2 = (List.replicate acc2.length true).map V.bl := by
        refine List.ext_getElem? fun i => ?_
        cases z : acc2[i]? with
        | none => rw [List.getElem?_eq_none (by simpa using List.getElem?_eq_none_iff.mp z)]
        | some y =>
          rw [hf2 i y z]
          obtain ⟨h, _⟩ := List.getElem?_eq_some_iff.mp z
          simp [h]
      rw [e] at ha2
      tm_at "wp"
      refine w_all (SqL.of ha2) ?_
      have e2 : (List.replicate acc2.length true).all id = true := by simp
      rw [e2]
      exact k _
structure HdB (w : World) (K : PySem.W.Frag) (h : Heap) (mg : Str → Option Value) : Prop where
  X : K.In h
  G : h.Ns mainGlobals mg
  c : He.SaysD fa fn K
  cx : (ex.all fun e => e K) = true
def HdT (K : PySem.W.Frag) (mg : Str → Option Value) (base : Heap) : Prop := (∀ p ∈ tf.map (He.cT K), TabB base mg p.1 p.2)
theorem fr_of {w : World} {K : PySem.W.Frag} {h : Heap} {mg : Str → Option Value} (B : HdB w K h mg) : Fre mg := ⟨He.free_ok B.X B.G (B.c.fact 51 (f := .free "len") rfl), He.free_ok B.X B.G (B.c.fact 52 (f := .free "isinstance") rfl), He.free_ok B.X B.G (B.c.fact 53 (f := .free "range") rfl), He.free_ok B.X B.G (B.c.fact 54 (f := .free "enumerate") rfl), He.free_ok B.X B.G (B.c.fact 55 (f := .free "zip") rfl), He.free_ok B.X B.G (B.c.fact 56 (f := .free "reversed") rfl), He.free_ok B.X B.G (B.c.fact 57 (f := .free "int") rfl), He.free_ok B.X B.G (B.c.fact 58 (f := .free "str") rfl), He.free_ok B.X B.G (B.c.fact 59 (f := .free "bool") rfl), He.free_ok B.X B.G (B.c.fact 60 (f := .free "tuple") rfl), He.free_ok B.X B.G (B.c.fact 61 (f := .free "list") rfl), He.free_ok B.X B.G (B.c.fact 62 (f := .free "dict") rfl), He.free_ok B.X B.G (B.c.fact 63 (f := .free "bytes") rfl), He.free_ok B.X B.G (B.c.fact 64 (f := .free "set") rfl), He.free_ok B.X B.G (B.c.fact 65 (f := .free "sum") rfl), He.free_ok B.X B.G (B.c.fact 66 (f := .free "all") rfl), He.free_ok B.X B.G (B.c.fact 67 (f := .free "any") rfl), He.free_ok B.X B.G (B.c.fact 68 (f := .free "abs") rfl), He.free_ok B.X B.G (B.c.fact 69 (f := .free "min") rfl), He.free_ok B.X B.G (B.c.fact 70 (f := .free "max") rfl), He.free_ok B.X B.G (B.c.fact 71 (f := .free "sorted") rfl), He.free_ok B.X B.G (B.c.fact 72 (f := .free "repr") rfl), He.free_ok B.X B.G (B.c.fact 73 (f := .free "divmod") rfl), He.free_ok B.X B.G (B.c.fact 74 (f := .free "type") rfl), He.free_ok B.X B.G (B.c.fact 75 (f := .free "map") rfl), He.free_ok B.X B.G (B.c.fact 76 (f := .free "iter") rfl), He.free_ok B.X B.G (B.c.fact 77 (f := .free "next") rfl)⟩
theorem c_LETTERS_of {w : World} {K : PySem.W.Frag} {h : Heap} {mg : Str → Option Value} (B : HdB w K h mg) : ∃ t, mg "LETTERS" = some (.str "abcdefghijklmnopqrstuvwxyz" t) := He.str_ok B.X B.G (B.c.fact 78 (f := .str "LETTERS" "abcdefghijklmnopqrstuvwxyz") rfl)
theorem c_MAX_NAMES_of {w : World} {K : PySem.W.Frag} {h : Heap} {mg : Str → Option Value} (B : HdB w K h mg) : ∃ t, mg "MAX_NAMES" = some (.int 12 t) := He.int_ok B.X B.G (B.c.fact 79 (f := .int "MAX_NAMES" 12) rfl)
theorem xk_InvalidCounts_of {w : World} {K : PySem.W.Frag} {h : Heap} {mg : Str → Option Value} (B : HdB w K h mg) : ExcK K mg "InvalidCounts" "index" := exkB_ok B.X B.G (ex_at B.cx 0 rfl)
theorem xk_InvalidName_of {w : World} {K : PySem.W.Frag} {h : Heap} {mg : Str → Option Value} (B : HdB w K h mg) : ExcK K mg "InvalidName" "name" := exkB_ok B.X B.G (ex_at B.cx 1 rfl)
theorem xk_TooManyNames_of {w : World} {K : PySem.W.Frag} {h : Heap} {mg : Str → Option Value} (B : HdB w K h mg) : ExcK K mg "TooManyNames" "found" := exkB_ok B.X B.G (ex_at B.cx 2 rfl)
theorem xk_InvalidOrder_of {w : World} {K : PySem.W.Frag} {h : Heap} {mg : Str → Option Value} (B : HdB w K h mg) : ExcK K mg "InvalidOrder" "index" := exkB_ok B.X B.G (ex_at B.cx 3 rfl)
theorem xk_InvalidSummary_of {w : World} {K : PySem.W.Frag} {h : Heap} {mg : Str → Option Value} (B : HdB w K h mg) : ExcK K mg "InvalidSummary" "index" := exkB_ok B.X B.G (ex_at B.cx 4 rfl)
theorem xk_InvalidTimes_of {w : World} {K : PySem.W.Frag} {h : Heap} {mg : Str → Option Value} (B : HdB w K h mg) : ExcK K mg "InvalidTimes" "times" := exkB_ok B.X B.G (ex_at B.cx 5 rfl)
theorem xk_InvalidCapacity_of {w : World} {K : PySem.W.Frag} {h : Heap} {mg : Str → Option Value} (B : HdB w K h mg) : ExcK K mg "InvalidCapacity" "capacity" := exkB_ok B.X B.G (ex_at B.cx 6 rfl)
theorem xk_InvalidSlots_of {w : World} {K : PySem.W.Frag} {h : Heap} {mg : Str → Option Value} (B : HdB w K h mg) : ExcK K mg "InvalidSlots" "slots" := exkB_ok B.X B.G (ex_at B.cx 7 rfl)
theorem xk_InvalidNumber_of {w : World} {K : PySem.W.Frag} {h : Heap} {mg : Str → Option Value} (B : HdB w K h mg) : ExcK K mg "InvalidNumber" "number" := exkB_ok B.X B.G (ex_at B.cx 8 rfl)
theorem xk_InvalidSize_of {w : World} {K : PySem.W.Frag} {h : Heap} {mg : Str → Option Value} (B : HdB w K h mg) : ExcK K mg "InvalidSize" "size" := exkB_ok B.X B.G (ex_at B.cx 9 rfl)
theorem xk_InvalidText_of {w : World} {K : PySem.W.Frag} {h : Heap} {mg : Str → Option Value} (B : HdB w K h mg) : ExcK K mg "InvalidText" "text" := exkB_ok B.X B.G (ex_at B.cx 10 rfl)
theorem xk_InvalidPlan_of {w : World} {K : PySem.W.Frag} {h : Heap} {mg : Str → Option Value} (B : HdB w K h mg) : ExcK K mg "InvalidPlan" "index" := exkB_ok B.X B.G (ex_at B.cx 11 rfl)
theorem xk_CapacitiesDiffer_of {w : World} {K : PySem.W.Frag} {h : Heap} {mg : Str → Option Value} (B : HdB w K h mg) : ExcK K mg "CapacitiesDiffer" "capacity" := exkB_ok B.X B.G (ex_at B.cx 12 rfl)
theorem xk_NotASummary_of {w : World} {K : PySem.W.Frag} {h : Heap} {mg : Str → Option Value} (B : HdB w K h mg) : ExcK K mg "NotASummary" "value" := exkB_ok B.X B.G (ex_at B.cx 13 rfl)
theorem xk_InvalidLine_of {w : World} {K : PySem.W.Frag} {h : Heap} {mg : Str → Option Value} (B : HdB w K h mg) : ExcK K mg "InvalidLine" "line" := exkB_ok B.X B.G (ex_at B.cx 14 rfl)
theorem xk_InvalidAction_of {w : World} {K : PySem.W.Frag} {h : Heap} {mg : Str → Option Value} (B : HdB w K h mg) : ExcK K mg "InvalidAction" "index" := exkB_ok B.X B.G (ex_at B.cx 15 rfl)
theorem xk_InvalidIndex_of {w : World} {K : PySem.W.Frag} {h : Heap} {mg : Str → Option Value} (B : HdB w K h mg) : ExcK K mg "InvalidIndex" "index" := exkB_ok B.X B.G (ex_at B.cx 16 rfl)
theorem xk_TooManyActions_of {w : World} {K : PySem.W.Frag} {h : Heap} {mg : Str → Option Value} (B : HdB w K h mg) : ExcK K mg "TooManyActions" "found" := exkB_ok B.X B.G (ex_at B.cx 17 rfl)
theorem x0_NothingToUndo_of {w : World} {K : PySem.W.Frag} {h : Heap} {mg : Str → Option Value} (B : HdB w K h mg) : Exc0 K mg "NothingToUndo" := ex0B_ok B.X B.G (ex_at B.cx 18 rfl)
theorem x0_Busy_of {w : World} {K : PySem.W.Frag} {h : Heap} {mg : Str → Option Value} (B : HdB w K h mg) : Exc0 K mg "Busy" := ex0B_ok B.X B.G (ex_at B.cx 19 rfl)
theorem xE_of {w : World} {K : PySem.W.Frag} {h : Heap} {mg : Str → Option Value} (B : HdB w K h mg) : ExF K mg := exfB_ok B.X B.G (ex_at B.cx 20 rfl)
theorem tn__law_one_right__law_right_of {w : World} {K : PySem.W.Frag} {h : Heap} {mg : Str → Option Value} (B : HdB w K h mg) : (He.cT K ("_law_one_right", none)).2 ≠ (He.cT K ("_law_right", none)).2 := of_decide_eq_true (ex_at B.cx 21 rfl)
theorem D_is_whole_of {w : World} {K : PySem.W.Frag} {h : Heap} {mg : Str → Option Value} (B : HdB w K h mg) : Dfd K mg "is_whole" s_is_whole := ⟨B.c.def_ 0 (d := d_is_whole) rfl, He.glo_ok B.X B.G (B.c.fact 0 (f := .glo "is_whole") rfl)⟩
theorem D_is_from_of {w : World} {K : PySem.W.Frag} {h : Heap} {mg : Str → Option Value} (B : HdB w K h mg) : Dfd K mg "is_from" s_is_from := ⟨B.c.def_ 1 (d := d_is_from) rfl, He.glo_ok B.X B.G (B.c.fact 1 (f := .glo "is_from") rfl)⟩
theorem D_is_name_of {w : World} {K : PySem.W.Frag} {h : Heap} {mg : Str → Option Value} (B : HdB w K h mg) : Dfd K mg "is_name" s_is_name := ⟨B.c.def_ 2 (d := d_is_name) rfl, He.glo_ok B.X B.G (B.c.fact 2 (f := .glo "is_name") rfl)⟩
theorem D_is_run_of {w : World} {K : PySem.W.Frag} {h : Heap} {mg : Str → Option Value} (B : HdB w K h mg) : Dfd K mg "is_run" s_is_run := ⟨B.c.def_ 3 (d := d_is_run) rfl, He.glo_ok B.X B.G (B.c.fact 3 (f := .glo "is_run") rfl)⟩
theorem D_first_invalid_of {w : World} {K : PySem.W.Frag} {h : Heap} {mg : Str → Option Value} (B : HdB w K h mg) : Dfd K mg "first_invalid" s_first_invalid := ⟨B.c.def_ 4 (d := d_first_invalid) rfl, He.glo_ok B.X B.G (B.c.fact 4 (f := .glo "first_invalid") rfl)⟩
theorem D_is_counts_of {w : World} {K : PySem.W.Frag} {h : Heap} {mg : Str → Option Value} (B : HdB w K h mg) : Dfd K mg "is_counts" s_is_counts := ⟨B.c.def_ 5 (d := d_is_counts) rfl, He.glo_ok B.X B.G (B.c.fact 5 (f := .glo "is_counts") rfl)⟩
theorem D_check_counts_of {w : World} {K : PySem.W.Frag} {h : Heap} {mg : Str → Option Value} (B : HdB w K h mg) : Dfd K mg "check_counts" s_check_counts := ⟨B.c.def_ 6 (d := d_check_counts) rfl, He.glo_ok B.X B.G (B.c.fact 6 (f := .glo "check_counts") rfl)⟩
theorem D_check_name_of {w : World} {K : PySem.W.Frag} {h : Heap} {mg : Str → Option Value} (B : HdB w K h mg) : Dfd K mg "check_name" s_check_name := ⟨B.c.def_ 7 (d := d_check_name) rfl, He.glo_ok B.X B.G (B.c.fact 7 (f := .glo "check_name") rfl)⟩
theorem D_sum_of_of {w : World} {K : PySem.W.Frag} {h : Heap} {mg : Str → Option Value} (B : HdB w K h mg) : Dfd K mg "sum_of" s_sum_of := ⟨B.c.def_ 8 (d := d_sum_of) rfl, He.glo_ok B.X B.G (B.c.fact 8 (f := .glo "sum_of") rfl)⟩
theorem D_table_of_of {w : World} {K : PySem.W.Frag} {h : Heap} {mg : Str → Option Value} (B : HdB w K h mg) : Dfd K mg "table_of" s_table_of := ⟨B.c.def_ 9 (d := d_table_of) rfl, He.glo_ok B.X B.G (B.c.fact 9 (f := .glo "table_of") rfl)⟩
theorem D_counts_of_table_of {w : World} {K : PySem.W.Frag} {h : Heap} {mg : Str → Option Value} (B : HdB w K h mg) : Dfd K mg "counts_of_table" s_counts_of_table := ⟨B.c.def_ 10 (d := d_counts_of_table) rfl, He.glo_ok B.X B.G (B.c.fact 10 (f := .glo "counts_of_table") rfl)⟩
theorem D_total_of {w : World} {K : PySem.W.Frag} {h : Heap} {mg : Str → Option Value} (B : HdB w K h mg) : Dfd K mg "total" s_total := ⟨B.c.def_ 11 (d := d_total) rfl, He.glo_ok B.X B.G (B.c.fact 11 (f := .glo "total") rfl)⟩
theorem D_count_of_of {w : World} {K : PySem.W.Frag} {h : Heap} {mg : Str → Option Value} (B : HdB w K h mg) : Dfd K mg "count_of" s_count_of := ⟨B.c.def_ 12 (d := d_count_of) rfl, He.glo_ok B.X B.G (B.c.fact 12 (f := .glo "count_of") rfl)⟩
theorem D_added_of {w : World} {K : PySem.W.Frag} {h : Heap} {mg : Str → Option Value} (B : HdB w K h mg) : Dfd K mg "added" s_added := ⟨B.c.def_ 13 (d := d_added) rfl, He.glo_ok B.X B.G (B.c.fact 13 (f := .glo "added") rfl)⟩
theorem D__law_cell_of {w : World} {K : PySem.W.Frag} {h : Heap} {mg : Str → Option Value} (B : HdB w K h mg) : Dfd K mg "_law_cell" s__law_cell := ⟨B.c.def_ 14 (d := d__law_cell) rfl, He.glo_ok B.X B.G (B.c.fact 14 (f := .glo "_law_cell") rfl)⟩
theorem D__law_pool_of {w : World} {K : PySem.W.Frag} {h : Heap} {mg : Str → Option Value} (B : HdB w K h mg) : Dfd K mg "_law_pool" s__law_pool := ⟨B.c.def_ 15 (d := d__law_pool) rfl, He.glo_ok B.X B.G (B.c.fact 15 (f := .glo "_law_pool") rfl)⟩
theorem D__law_draw_of {w : World} {K : PySem.W.Frag} {h : Heap} {mg : Str → Option Value} (B : HdB w K h mg) : Dfd K mg "_law_draw" s__law_draw := ⟨B.c.def_ 16 (d := d__law_draw) rfl, He.glo_ok B.X B.G (B.c.fact 16 (f := .glo "_law_draw") rfl)⟩
theorem D__law_words_of {w : World} {K : PySem.W.Frag} {h : Heap} {mg : Str → Option Value} (B : HdB w K h mg) : Dfd K mg "_law_words" s__law_words := ⟨B.c.def_ 17 (d := d__law_words) rfl, He.glo_ok B.X B.G (B.c.fact 17 (f := .glo "_law_words") rfl)⟩
theorem D__law_often_of {w : World} {K : PySem.W.Frag} {h : Heap} {mg : Str → Option Value} (B : HdB w K h mg) : Dfd K mg "_law_often" s__law_often := ⟨B.c.def_ 18 (d := d__law_often) rfl, He.glo_ok B.X B.G (B.c.fact 18 (f := .glo "_law_often") rfl)⟩
theorem D__law_bag_of {w : World} {K : PySem.W.Frag} {h : Heap} {mg : Str → Option Value} (B : HdB w K h mg) : Dfd K mg "_law_bag" s__law_bag := ⟨B.c.def_ 19 (d := d__law_bag) rfl, He.glo_ok B.X B.G (B.c.fact 19 (f := .glo "_law_bag") rfl)⟩
theorem D__law_kind_of {w : World} {K : PySem.W.Frag} {h : Heap} {mg : Str → Option Value} (B : HdB w K h mg) : Dfd K mg "_law_kind" s__law_kind := ⟨B.c.def_ 20 (d := d__law_kind) rfl, He.glo_ok B.X B.G (B.c.fact 20 (f := .glo "_law_kind") rfl)⟩
theorem D__law_fields_of {w : World} {K : PySem.W.Frag} {h : Heap} {mg : Str → Option Value} (B : HdB w K h mg) : Dfd K mg "_law_fields" s__law_fields := ⟨B.c.def_ 21 (d := d__law_fields) rfl, He.glo_ok B.X B.G (B.c.fact 21 (f := .glo "_law_fields") rfl)⟩
theorem D__law_other_fields_of {w : World} {K : PySem.W.Frag} {h : Heap} {mg : Str → Option Value} (B : HdB w K h mg) : Dfd K mg "_law_other_fields" s__law_other_fields := ⟨B.c.def_ 22 (d := d__law_other_fields) rfl, He.glo_ok B.X B.G (B.c.fact 22 (f := .glo "_law_other_fields") rfl)⟩
theorem D__law_pair_of {w : World} {K : PySem.W.Frag} {h : Heap} {mg : Str → Option Value} (B : HdB w K h mg) : Dfd K mg "_law_pair" s__law_pair := ⟨B.c.def_ 23 (d := d__law_pair) rfl, He.glo_ok B.X B.G (B.c.fact 23 (f := .glo "_law_pair") rfl)⟩
theorem D__law_due_of {w : World} {K : PySem.W.Frag} {h : Heap} {mg : Str → Option Value} (B : HdB w K h mg) : Dfd K mg "_law_due" s__law_due := ⟨B.c.def_ 24 (d := d__law_due) rfl, He.glo_ok B.X B.G (B.c.fact 24 (f := .glo "_law_due") rfl)⟩
theorem D__law_odd_of {w : World} {K : PySem.W.Frag} {h : Heap} {mg : Str → Option Value} (B : HdB w K h mg) : Dfd K mg "_law_odd" s__law_odd := ⟨B.c.def_ 25 (d := d__law_odd) rfl, He.glo_ok B.X B.G (B.c.fact 25 (f := .glo "_law_odd") rfl)⟩
theorem D__law_one_right_of {w : World} {K : PySem.W.Frag} {h : Heap} {mg : Str → Option Value} (B : HdB w K h mg) : Dfd K mg "_law_one_right" s__law_one_right := ⟨B.c.def_ 26 (d := d__law_one_right) rfl, He.glo_ok B.X B.G (B.c.fact 26 (f := .glo "_law_one_right") rfl)⟩
theorem D__law_right_of {w : World} {K : PySem.W.Frag} {h : Heap} {mg : Str → Option Value} (B : HdB w K h mg) : Dfd K mg "_law_right" s__law_right := ⟨B.c.def_ 27 (d := d__law_right) rfl, He.glo_ok B.X B.G (B.c.fact 27 (f := .glo "_law_right") rfl)⟩
theorem D__law_created_right_of {w : World} {K : PySem.W.Frag} {h : Heap} {mg : Str → Option Value} (B : HdB w K h mg) : Dfd K mg "_law_created_right" s__law_created_right := ⟨B.c.def_ 28 (d := d__law_created_right) rfl, He.glo_ok B.X B.G (B.c.fact 28 (f := .glo "_law_created_right") rfl)⟩
theorem D__law_read_errors_of {w : World} {K : PySem.W.Frag} {h : Heap} {mg : Str → Option Value} (B : HdB w K h mg) : Dfd K mg "_law_read_errors" s__law_read_errors := ⟨B.c.def_ 29 (d := d__law_read_errors) rfl, He.glo_ok B.X B.G (B.c.fact 29 (f := .glo "_law_read_errors") rfl)⟩
theorem D__law_created_by_name_of {w : World} {K : PySem.W.Frag} {h : Heap} {mg : Str → Option Value} (B : HdB w K h mg) : Dfd K mg "_law_created_by_name" s__law_created_by_name := ⟨B.c.def_ 30 (d := d__law_created_by_name) rfl, He.glo_ok B.X B.G (B.c.fact 30 (f := .glo "_law_created_by_name") rfl)⟩
theorem D_law_of {w : World} {K : PySem.W.Frag} {h : Heap} {mg : Str → Option Value} (B : HdB w K h mg) : Dfd K mg "law" s_law := ⟨B.c.def_ 31 (d := d_law) rfl, He.glo_ok B.X B.G (B.c.fact 31 (f := .glo "law") rfl)⟩
theorem D_InvalidCounts___init___of {w : World} {K : PySem.W.Frag} {h : Heap} {mg : Str → Option Value} (B : HdB w K h mg) : DfdM K "InvalidCounts" "__init__" "InvalidCounts.__init__" s_InvalidCounts___init__ [] := ⟨B.c.def_ 32 (d := d_InvalidCounts___init__) rfl, He.meth_ok (B.c.fact 32 (f := .meth "InvalidCounts" "__init__") rfl)⟩
theorem D_InvalidName___init___of {w : World} {K : PySem.W.Frag} {h : Heap} {mg : Str → Option Value} (B : HdB w K h mg) : DfdM K "InvalidName" "__init__" "InvalidName.__init__" s_InvalidName___init__ [] := ⟨B.c.def_ 33 (d := d_InvalidName___init__) rfl, He.meth_ok (B.c.fact 33 (f := .meth "InvalidName" "__init__") rfl)⟩
theorem D_TooManyNames___init___of {w : World} {K : PySem.W.Frag} {h : Heap} {mg : Str → Option Value} (B : HdB w K h mg) : DfdM K "TooManyNames" "__init__" "TooManyNames.__init__" s_TooManyNames___init__ [] := ⟨B.c.def_ 34 (d := d_TooManyNames___init__) rfl, He.meth_ok (B.c.fact 34 (f := .meth "TooManyNames" "__init__") rfl)⟩
theorem D_InvalidOrder___init___of {w : World} {K : PySem.W.Frag} {h : Heap} {mg : Str → Option Value} (B : HdB w K h mg) : DfdM K "InvalidOrder" "__init__" "InvalidOrder.__init__" s_InvalidOrder___init__ [] := ⟨B.c.def_ 35 (d := d_InvalidOrder___init__) rfl, He.meth_ok (B.c.fact 35 (f := .meth "InvalidOrder" "__init__") rfl)⟩
theorem D_InvalidSummary___init___of {w : World} {K : PySem.W.Frag} {h : Heap} {mg : Str → Option Value} (B : HdB w K h mg) : DfdM K "InvalidSummary" "__init__" "InvalidSummary.__init__" s_InvalidSummary___init__ [] := ⟨B.c.def_ 36 (d := d_InvalidSummary___init__) rfl, He.meth_ok (B.c.fact 36 (f := .meth "InvalidSummary" "__init__") rfl)⟩
theorem D_InvalidTimes___init___of {w : World} {K : PySem.W.Frag} {h : Heap} {mg : Str → Option Value} (B : HdB w K h mg) : DfdM K "InvalidTimes" "__init__" "InvalidTimes.__init__" s_InvalidTimes___init__ [] := ⟨B.c.def_ 37 (d := d_InvalidTimes___init__) rfl, He.meth_ok (B.c.fact 37 (f := .meth "InvalidTimes" "__init__") rfl)⟩
theorem D_InvalidCapacity___init___of {w : World} {K : PySem.W.Frag} {h : Heap} {mg : Str → Option Value} (B : HdB w K h mg) : DfdM K "InvalidCapacity" "__init__" "InvalidCapacity.__init__" s_InvalidCapacity___init__ [] := ⟨B.c.def_ 38 (d := d_InvalidCapacity___init__) rfl, He.meth_ok (B.c.fact 38 (f := .meth "InvalidCapacity" "__init__") rfl)⟩
theorem D_InvalidSlots___init___of {w : World} {K : PySem.W.Frag} {h : Heap} {mg : Str → Option Value} (B : HdB w K h mg) : DfdM K "InvalidSlots" "__init__" "InvalidSlots.__init__" s_InvalidSlots___init__ [] := ⟨B.c.def_ 39 (d := d_InvalidSlots___init__) rfl, He.meth_ok (B.c.fact 39 (f := .meth "InvalidSlots" "__init__") rfl)⟩
theorem D_InvalidNumber___init___of {w : World} {K : PySem.W.Frag} {h : Heap} {mg : Str → Option Value} (B : HdB w K h mg) : DfdM K "InvalidNumber" "__init__" "InvalidNumber.__init__" s_InvalidNumber___init__ [] := ⟨B.c.def_ 40 (d := d_InvalidNumber___init__) rfl, He.meth_ok (B.c.fact 40 (f := .meth "InvalidNumber" "__init__") rfl)⟩
theorem D_InvalidSize___init___of {w : World} {K : PySem.W.Frag} {h : Heap} {mg : Str → Option Value} (B : HdB w K h mg) : DfdM K "InvalidSize" "__init__" "InvalidSize.__init__" s_InvalidSize___init__ [] := ⟨B.c.def_ 41 (d := d_InvalidSize___init__) rfl, He.meth_ok (B.c.fact 41 (f := .meth "InvalidSize" "__init__") rfl)⟩
theorem D_InvalidText___init___of {w : World} {K : PySem.W.Frag} {h : Heap} {mg : Str → Option Value} (B : HdB w K h mg) : DfdM K "InvalidText" "__init__" "InvalidText.__init__" s_InvalidText___init__ [] := ⟨B.c.def_ 42 (d := d_InvalidText___init__) rfl, He.meth_ok (B.c.fact 42 (f := .meth "InvalidText" "__init__") rfl)⟩
theorem D_InvalidPlan___init___of {w : World} {K : PySem.W.Frag} {h : Heap} {mg : Str → Option Value} (B : HdB w K h mg) : DfdM K "InvalidPlan" "__init__" "InvalidPlan.__init__" s_InvalidPlan___init__ [] := ⟨B.c.def_ 43 (d := d_InvalidPlan___init__) rfl, He.meth_ok (B.c.fact 43 (f := .meth "InvalidPlan" "__init__") rfl)⟩
theorem D_CapacitiesDiffer___init___of {w : World} {K : PySem.W.Frag} {h : Heap} {mg : Str → Option Value} (B : HdB w K h mg) : DfdM K "CapacitiesDiffer" "__init__" "CapacitiesDiffer.__init__" s_CapacitiesDiffer___init__ [] := ⟨B.c.def_ 44 (d := d_CapacitiesDiffer___init__) rfl, He.meth_ok (B.c.fact 44 (f := .meth "CapacitiesDiffer" "__init__") rfl)⟩
theorem D_NotASummary___init___of {w : World} {K : PySem.W.Frag} {h : Heap} {mg : Str → Option Value} (B : HdB w K h mg) : DfdM K "NotASummary" "__init__" "NotASummary.__init__" s_NotASummary___init__ [] := ⟨B.c.def_ 45 (d := d_NotASummary___init__) rfl, He.meth_ok (B.c.fact 45 (f := .meth "NotASummary" "__init__") rfl)⟩
theorem D_InvalidLine___init___of {w : World} {K : PySem.W.Frag} {h : Heap} {mg : Str → Option Value} (B : HdB w K h mg) : DfdM K "InvalidLine" "__init__" "InvalidLine.__init__" s_InvalidLine___init__ [] := ⟨B.c.def_ 46 (d := d_InvalidLine___init__) rfl, He.meth_ok (B.c.fact 46 (f := .meth "InvalidLine" "__init__") rfl)⟩
theorem D_InvalidAction___init___of {w : World} {K : PySem.W.Frag} {h : Heap} {mg : Str → Option Value} (B : HdB w K h mg) : DfdM K "InvalidAction" "__init__" "InvalidAction.__init__" s_InvalidAction___init__ [] := ⟨B.c.def_ 47 (d := d_InvalidAction___init__) rfl, He.meth_ok (B.c.fact 47 (f := .meth "InvalidAction" "__init__") rfl)⟩
theorem D_InvalidIndex___init___of {w : World} {K : PySem.W.Frag} {h : Heap} {mg : Str → Option Value} (B : HdB w K h mg) : DfdM K "InvalidIndex" "__init__" "InvalidIndex.__init__" s_InvalidIndex___init__ [] := ⟨B.c.def_ 48 (d := d_InvalidIndex___init__) rfl, He.meth_ok (B.c.fact 48 (f := .meth "InvalidIndex" "__init__") rfl)⟩
theorem D_TooManyActions___init___of {w : World} {K : PySem.W.Frag} {h : Heap} {mg : Str → Option Value} (B : HdB w K h mg) : DfdM K "TooManyActions" "__init__" "TooManyActions.__init__" s_TooManyActions___init__ [] := ⟨B.c.def_ 49 (d := d_TooManyActions___init__) rfl, He.meth_ok (B.c.fact 49 (f := .meth "TooManyActions" "__init__") rfl)⟩
theorem D__law_caught_of {w : World} {K : PySem.W.Frag} {h : Heap} {mg : Str → Option Value} (B : HdB w K h mg) : Dfd K mg "_law_caught" s__law_caught := ⟨B.c.def_ 50 (d := d__law_caught) rfl, He.glo_ok B.X B.G (B.c.fact 50 (f := .glo "_law_caught") rfl)⟩
theorem x_InvalidCounts_of {P : Program} {w : World} {K : PySem.W.Frag} {h : Heap} {mg : Str → Option Value} {base : Heap} (B : HdB w K h mg) (T : HdT K mg base) : HasX P w K mg base "InvalidCounts" "index" := hasX_of (xk_InvalidCounts_of B) (D_InvalidCounts___init___of B).ex sc_InvalidCounts___init__ rfl (.inl rfl) (.inl rfl) (fun _ _ _ _ _ _ us hl => match us, hl with | [_, _], _ => rfl)
theorem x_InvalidName_of {P : Program} {w : World} {K : PySem.W.Frag} {h : Heap} {mg : Str → Option Value} {base : Heap} (B : HdB w K h mg) (T : HdT K mg base) : HasX P w K mg base "InvalidName" "name" := hasX_of (xk_InvalidName_of B) (D_InvalidName___init___of B).ex sc_InvalidName___init__ rfl (.inl rfl) (.inl rfl) (fun _ _ _ _ _ _ us hl => match us, hl with | [_, _], _ => rfl)
theorem x_TooManyNames_of {P : Program} {w : World} {K : PySem.W.Frag} {h : Heap} {mg : Str → Option Value} {base : Heap} (B : HdB w K h mg) (T : HdT K mg base) : HasX P w K mg base "TooManyNames" "found" := hasX_of (xk_TooManyNames_of B) (D_TooManyNames___init___of B).ex sc_TooManyNames___init__ rfl (.inl rfl) (.inl rfl) (fun _ _ _ _ _ _ us hl => match us, hl with | [_, _], _ => rfl)
theorem x_InvalidOrder_of {P : Program} {w : World} {K : PySem.W.Frag} {h : Heap} {mg : Str → Option Value} {base : Heap} (B : HdB w K h mg) (T : HdT K mg base) : HasX P w K mg base "InvalidOrder" "index" := hasX_of (xk_InvalidOrder_of B) (D_InvalidOrder___init___of B).ex sc_InvalidOrder___init__ rfl (.inl rfl) (.inl rfl) (fun _ _ _ _ _ _ us hl => match us, hl with | [_, _], _ => rfl)
theorem x_InvalidSummary_of {P : Program} {w : World} {K : PySem.W.Frag} {h : Heap} {mg : Str → Option Value} {base : Heap} (B : HdB w K h mg) (T : HdT K mg base) : HasX P w K mg base "InvalidSummary" "index" := hasX_of (xk_InvalidSummary_of B) (D_InvalidSummary___init___of B).ex sc_InvalidSummary___init__ rfl (.inl rfl) (.inl rfl) (fun _ _ _ _ _ _ us hl => match us, hl with | [_, _], _ => rfl)
theorem x_InvalidTimes_of {P : Program} {w : World} {K : PySem.W.Frag} {h : Heap} {mg : Str → Option Value} {base : Heap} (B : HdB w K h mg) (T : HdT K mg base) : HasX P w K mg base "InvalidTimes" "times" := hasX_of (xk_InvalidTimes_of B) (D_InvalidTimes___init___of B).ex sc_InvalidTimes___init__ rfl (.inl rfl) (.inl rfl) (fun _ _ _ _ _ _ us hl => match us, hl with | [_, _], _ => rfl)
theorem x_InvalidCapacity_of {P : Program} {w : World} {K : PySem.W.Frag} {h : Heap} {mg : Str → Option Value} {base : Heap} (B : HdB w K h mg) (T : HdT K mg base) : HasX P w K mg base "InvalidCapacity" "capacity" := hasX_of (xk_InvalidCapacity_of B) (D_InvalidCapacity___init___of B).ex sc_InvalidCapacity___init__ rfl (.inl rfl) (.inl rfl) (fun _ _ _ _ _ _ us hl => match us, hl with | [_, _], _ => rfl)
theorem x_InvalidSlots_of {P : Program} {w : World} {K : PySem.W.Frag} {h : Heap} {mg : Str → Option Value} {base : Heap} (B : HdB w K h mg) (T : HdT K mg base) : HasX P w K mg base "InvalidSlots" "slots" := hasX_of (xk_InvalidSlots_of B) (D_InvalidSlots___init___of B).ex sc_InvalidSlots___init__ rfl (.inl rfl) (.inl rfl) (fun _ _ _ _ _ _ us hl => match us, hl with | [_, _], _ => rfl)
theorem x_InvalidNumber_of {P : Program} {w : World} {K : PySem.W.Frag} {h : Heap} {mg : Str → Option Value} {base : Heap} (B : HdB w K h mg) (T : HdT K mg base) : HasX P w K mg base "InvalidNumber" "number" := hasX_of (xk_InvalidNumber_of B) (D_InvalidNumber___init___of B).ex sc_InvalidNumber___init__ rfl (.inl rfl) (.inl rfl) (fun _ _ _ _ _ _ us hl => match us, hl with | [_, _], _ => rfl)
theorem x_InvalidSize_of {P : Program} {w : World} {K : PySem.W.Frag} {h : Heap} {mg : Str → Option Value} {base : Heap} (B : HdB w K h mg) (T : HdT K mg base) : HasX P w K mg base "InvalidSize" "size" := hasX_of (xk_InvalidSize_of B) (D_InvalidSize___init___of B).ex sc_InvalidSize___init__ rfl (.inl rfl) (.inl rfl) (fun _ _ _ _ _ _ us hl => match us, hl with | [_, _], _ => rfl)
theorem x_InvalidText_of {P : Program} {w : World} {K : PySem.W.Frag} {h : Heap} {mg : Str → Option Value} {base : Heap} (B : HdB w K h mg) (T : HdT K mg base) : HasX P w K mg base "InvalidText" "text" := hasX_of (xk_InvalidText_of B) (D_InvalidText___init___of B).ex sc_InvalidText___init__ rfl (.inl rfl) (.inl rfl) (fun _ _ _ _ _ _ us hl => match us, hl with | [_, _], _ => rfl)
theorem x_InvalidPlan_of {P : Program} {w : World} {K : PySem.W.Frag} {h : Heap} {mg : Str → Option Value} {base : Heap} (B : HdB w K h mg) (T : HdT K mg base) : HasX P w K mg base "InvalidPlan" "index" := hasX_of (xk_InvalidPlan_of B) (D_InvalidPlan___init___of B).ex sc_InvalidPlan___init__ rfl (.inl rfl) (.inl rfl) (fun _ _ _ _ _ _ us hl => match us, hl with | [_, _], _ => rfl)
theorem x_CapacitiesDiffer_of {P : Program} {w : World} {K : PySem.W.Frag} {h : Heap} {mg : Str → Option Value} {base : Heap} (B : HdB w K h mg) (T : HdT K mg base) : HasX P w K mg base "CapacitiesDiffer" "capacity" := hasX_of (xk_CapacitiesDiffer_of B) (D_CapacitiesDiffer___init___of B).ex sc_CapacitiesDiffer___init__ rfl (.inl rfl) (.inl rfl) (fun _ _ _ _ _ _ us hl => match us, hl with | [_, _], _ => rfl)
theorem x_NotASummary_of {P : Program} {w : World} {K : PySem.W.Frag} {h : Heap} {mg : Str → Option Value} {base : Heap} (B : HdB w K h mg) (T : HdT K mg base) : HasX P w K mg base "NotASummary" "value" := hasX_of (xk_NotASummary_of B) (D_NotASummary___init___of B).ex sc_NotASummary___init__ rfl (.inl rfl) (.inl rfl) (fun _ _ _ _ _ _ us hl => match us, hl with | [_, _], _ => rfl)
theorem x_InvalidLine_of {P : Program} {w : World} {K : PySem.W.Frag} {h : Heap} {mg : Str → Option Value} {base : Heap} (B : HdB w K h mg) (T : HdT K mg base) : HasX P w K mg base "InvalidLine" "line" := hasX_of (xk_InvalidLine_of B) (D_InvalidLine___init___of B).ex sc_InvalidLine___init__ rfl (.inl rfl) (.inl rfl) (fun _ _ _ _ _ _ us hl => match us, hl with | [_, _], _ => rfl)
theorem x_InvalidAction_of {P : Program} {w : World} {K : PySem.W.Frag} {h : Heap} {mg : Str → Option Value} {base : Heap} (B : HdB w K h mg) (T : HdT K mg base) : HasX P w K mg base "InvalidAction" "index" := hasX_of (xk_InvalidAction_of B) (D_InvalidAction___init___of B).ex sc_InvalidAction___init__ rfl (.inl rfl) (.inl rfl) (fun _ _ _ _ _ _ us hl => match us, hl with | [_, _], _ => rfl)
theorem x_InvalidIndex_of {P : Program} {w : World} {K : PySem.W.Frag} {h : Heap} {mg : Str → Option Value} {base : Heap} (B : HdB w K h mg) (T : HdT K mg base) : HasX P w K mg base "InvalidIndex" "index" := hasX_of (xk_InvalidIndex_of B) (D_InvalidIndex___init___of B).ex sc_InvalidIndex___init__ rfl (.inl rfl) (.inl rfl) (fun _ _ _ _ _ _ us hl => match us, hl with | [_, _], _ => rfl)
theorem x_TooManyActions_of {P : Program} {w : World} {K : PySem.W.Frag} {h : Heap} {mg : Str → Option Value} {base : Heap} (B : HdB w K h mg) (T : HdT K mg base) : HasX P w K mg base "TooManyActions" "found" := hasX_of (xk_TooManyActions_of B) (D_TooManyActions___init___of B).ex sc_TooManyActions___init__ rfl (.inl rfl) (.inl rfl) (fun _ _ _ _ _ _ us hl => match us, hl with | [_, _], _ => rfl)
theorem y_InvalidCounts_of {P : Program} {w : World} {K : PySem.W.Frag} {h : Heap} {mg : Str → Option Value} {base : Heap} (B : HdB w K h mg) (T : HdT K mg base) : HasXK P w K mg base "InvalidCounts" "index" := hasXK_of (xk_InvalidCounts_of B) (D_InvalidCounts___init___of B).ex sc_InvalidCounts___init__ rfl (.inl rfl) (.inl rfl) (fun _ _ _ _ _ _ us hl => match us, hl with | [_, _], _ => rfl) (fun _ _ _ _ _ _ _ _ => rfl)
theorem y_InvalidName_of {P : Program} {w : World} {K : PySem.W.Frag} {h : Heap} {mg : Str → Option Value} {base : Heap} (B : HdB w K h mg) (T : HdT K mg base) : HasXK P w K mg base "InvalidName" "name" := hasXK_of (xk_InvalidName_of B) (D_InvalidName___init___of B).ex sc_InvalidName___init__ rfl (.inl rfl) (.inl rfl) (fun _ _ _ _ _ _ us hl => match us, hl with | [_, _], _ => rfl) (fun _ _ _ _ _ _ _ _ => rfl)
theorem y_TooManyNames_of {P : Program} {w : World} {K : PySem.W.Frag} {h : Heap} {mg : Str → Option Value} {base : Heap} (B : HdB w K h mg) (T : HdT K mg base) : HasXK P w K mg base "TooManyNames" "found" := hasXK_of (xk_TooManyNames_of B) (D_TooManyNames___init___of B).ex sc_TooManyNames___init__ rfl (.inl rfl) (.inl rfl) (fun _ _ _ _ _ _ us hl => match us, hl with | [_, _], _ => rfl) (fun _ _ _ _ _ _ _ _ => rfl)
theorem y_InvalidOrder_of {P : Program} {w : World} {K : PySem.W.Frag} {h : Heap} {mg : Str → Option Value} {base : Heap} (B : HdB w K h mg) (T : HdT K mg base) : HasXK P w K mg base "InvalidOrder" "index" := hasXK_of (xk_InvalidOrder_of B) (D_InvalidOrder___init___of B).ex sc_InvalidOrder___init__ rfl (.inl rfl) (.inl rfl) (fun _ _ _ _ _ _ us hl => match us, hl with | [_, _], _ => rfl) (fun _ _ _ _ _ _ _ _ => rfl)
theorem y_InvalidSummary_of {P : Program} {w : World} {K : PySem.W.Frag} {h : Heap} {mg : Str → Option Value} {base : Heap} (B : HdB w K h mg) (T : HdT K mg base) : HasXK P w K mg base "InvalidSummary" "index" := hasXK_of (xk_InvalidSummary_of B) (D_InvalidSummary___init___of B).ex sc_InvalidSummary___init__ rfl (.inl rfl) (.inl rfl) (fun _ _ _ _ _ _ us hl => match us, hl with | [_, _], _ => rfl) (fun _ _ _ _ _ _ _ _ => rfl)
theorem y_InvalidTimes_of {P : Program} {w : World} {K : PySem.W.Frag} {h : Heap} {mg : Str → Option Value} {base : Heap} (B : HdB w K h mg) (T : HdT K mg base) : HasXK P w K mg base "InvalidTimes" "times" := hasXK_of (xk_InvalidTimes_of B) (D_InvalidTimes___init___of B).ex sc_InvalidTimes___init__ rfl (.inl rfl) (.inl rfl) (fun _ _ _ _ _ _ us hl => match us, hl with | [_, _], _ => rfl) (fun _ _ _ _ _ _ _ _ => rfl)
theorem y_InvalidCapacity_of {P : Program} {w : World} {K : PySem.W.Frag} {h : Heap} {mg : Str → Option Value} {base : Heap} (B : HdB w K h mg) (T : HdT K mg base) : HasXK P w K mg base "InvalidCapacity" "capacity" := hasXK_of (xk_InvalidCapacity_of B) (D_InvalidCapacity___init___of B).ex sc_InvalidCapacity___init__ rfl (.inl rfl) (.inl rfl) (fun _ _ _ _ _ _ us hl => match us, hl with | [_, _], _ => rfl) (fun _ _ _ _ _ _ _ _ => rfl)
theorem y_InvalidSlots_of {P : Program} {w : World} {K : PySem.W.Frag} {h : Heap} {mg : Str → Option Value} {base : Heap} (B : HdB w K h mg) (T : HdT K mg base) : HasXK P w K mg base "InvalidSlots" "slots" := hasXK_of (xk_InvalidSlots_of B) (D_InvalidSlots___init___of B).ex sc_InvalidSlots___init__ rfl (.inl rfl) (.inl rfl) (fun _ _ _ _ _ _ us hl => match us, hl with | [_, _], _ => rfl) (fun _ _ _ _ _ _ _ _ => rfl)
theorem y_InvalidNumber_of {P : Program} {w : World} {K : PySem.W.Frag} {h : Heap} {mg : Str → Option Value} {base : Heap} (B : HdB w K h mg) (T : HdT K mg base) : HasXK P w K mg base "InvalidNumber" "number" := hasXK_of (xk_InvalidNumber_of B) (D_InvalidNumber___init___of B).ex sc_InvalidNumber___init__ rfl (.inl rfl) (.inl rfl) (fun _ _ _ _ _ _ us hl => match us, hl with | [_, _], _ => rfl) (fun _ _ _ _ _ _ _ _ => rfl)
theorem y_InvalidSize_of {P : Program} {w : World} {K : PySem.W.Frag} {h : Heap} {mg : Str → Option Value} {base : Heap} (B : HdB w K h mg) (T : HdT K mg base) : HasXK P w K mg base "InvalidSize" "size" := hasXK_of (xk_InvalidSize_of B) (D_InvalidSize___init___of B).ex sc_InvalidSize___init__ rfl (.inl rfl) (.inl rfl) (fun _ _ _ _ _ _ us hl => match us, hl with | [_, _], _ => rfl) (fun _ _ _ _ _ _ _ _ => rfl)
theorem y_InvalidText_of {P : Program} {w : World} {K : PySem.W.Frag} {h : Heap} {mg : Str → Option Value} {base : Heap} (B : HdB w K h mg) (T : HdT K mg base) : HasXK P w K mg base "InvalidText" "text" := hasXK_of (xk_InvalidText_of B) (D_InvalidText___init___of B).ex sc_InvalidText___init__ rfl (.inl rfl) (.inl rfl) (fun _ _ _ _ _ _ us hl => match us, hl with | [_, _], _ => rfl) (fun _ _ _ _ _ _ _ _ => rfl)
theorem y_InvalidPlan_of {P : Program} {w : World} {K : PySem.W.Frag} {h : Heap} {mg : Str → Option Value} {base : Heap} (B : HdB w K h mg) (T : HdT K mg base) : HasXK P w K mg base "InvalidPlan" "index" := hasXK_of (xk_InvalidPlan_of B) (D_InvalidPlan___init___of B).ex sc_InvalidPlan___init__ rfl (.inl rfl) (.inl rfl) (fun _ _ _ _ _ _ us hl => match us, hl with | [_, _], _ => rfl) (fun _ _ _ _ _ _ _ _ => rfl)
theorem y_CapacitiesDiffer_of {P : Program} {w : World} {K : PySem.W.Frag} {h : Heap} {mg : Str → Option Value} {base : Heap} (B : HdB w K h mg) (T : HdT K mg base) : HasXK P w K mg base "CapacitiesDiffer" "capacity" := hasXK_of (xk_CapacitiesDiffer_of B) (D_CapacitiesDiffer___init___of B).ex sc_CapacitiesDiffer___init__ rfl (.inl rfl) (.inl rfl) (fun _ _ _ _ _ _ us hl => match us, hl with | [_, _], _ => rfl) (fun _ _ _ _ _ _ _ _ => rfl)
theorem y_NotASummary_of {P : Program} {w : World} {K : PySem.W.Frag} {h : Heap} {mg : Str → Option Value} {base : Heap} (B : HdB w K h mg) (T : HdT K mg base) : HasXK P w K mg base "NotASummary" "value" := hasXK_of (xk_NotASummary_of B) (D_NotASummary___init___of B).ex sc_NotASummary___init__ rfl (.inl rfl) (.inl rfl) (fun _ _ _ _ _ _ us hl => match us, hl with | [_, _], _ => rfl) (fun _ _ _ _ _ _ _ _ => rfl)
theorem y_InvalidLine_of {P : Program} {w : World} {K : PySem.W.Frag} {h : Heap} {mg : Str → Option Value} {base : Heap} (B : HdB w K h mg) (T : HdT K mg base) : HasXK P w K mg base "InvalidLine" "line" := hasXK_of (xk_InvalidLine_of B) (D_InvalidLine___init___of B).ex sc_InvalidLine___init__ rfl (.inl rfl) (.inl rfl) (fun _ _ _ _ _ _ us hl => match us, hl with | [_, _], _ => rfl) (fun _ _ _ _ _ _ _ _ => rfl)
theorem y_InvalidAction_of {P : Program} {w : World} {K : PySem.W.Frag} {h : Heap} {mg : Str → Option Value} {base : Heap} (B : HdB w K h mg) (T : HdT K mg base) : HasXK P w K mg base "InvalidAction" "index" := hasXK_of (xk_InvalidAction_of B) (D_InvalidAction___init___of B).ex sc_InvalidAction___init__ rfl (.inl rfl) (.inl rfl) (fun _ _ _ _ _ _ us hl => match us, hl with | [_, _], _ => rfl) (fun _ _ _ _ _ _ _ _ => rfl)
theorem y_InvalidIndex_of {P : Program} {w : World} {K : PySem.W.Frag} {h : Heap} {mg : Str → Option Value} {base : Heap} (B : HdB w K h mg) (T : HdT K mg base) : HasXK P w K mg base "InvalidIndex" "index" := hasXK_of (xk_InvalidIndex_of B) (D_InvalidIndex___init___of B).ex sc_InvalidIndex___init__ rfl (.inl rfl) (.inl rfl) (fun _ _ _ _ _ _ us hl => match us, hl with | [_, _], _ => rfl) (fun _ _ _ _ _ _ _ _ => rfl)
theorem y_TooManyActions_of {P : Program} {w : World} {K : PySem.W.Frag} {h : Heap} {mg : Str → Option Value} {base : Heap} (B : HdB w K h mg) (T : HdT K mg base) : HasXK P w K mg base "TooManyActions" "found" := hasXK_of (xk_TooManyActions_of B) (D_TooManyActions___init___of B).ex sc_TooManyActions___init__ rfl (.inl rfl) (.inl rfl) (fun _ _ _ _ _ _ us hl => match us, hl with | [_, _], _ => rfl) (fun _ _ _ _ _ _ _ _ => rfl)
theorem tb__law_one_right_of {w : World} {K : PySem.W.Frag} {h : Heap} {mg : Str → Option Value} {base : Heap} (B : HdB w K h mg) (T : HdT K mg base) : TabB base mg (He.cT K ("_law_one_right", none)).1 (He.cT K ("_law_one_right", none)).2 := T _ (List.mem_map.mpr ⟨("_law_one_right", none), by decide, rfl⟩)
theorem tb__law_right_of {w : World} {K : PySem.W.Frag} {h : Heap} {mg : Str → Option Value} {base : Heap} (B : HdB w K h mg) (T : HdT K mg base) : TabB base mg (He.cT K ("_law_right", none)).1 (He.cT K ("_law_right", none)).2 := T _ (List.mem_map.mpr ⟨("_law_right", none), by decide, rfl⟩)
theorem hu__law_one_right_of {w : World} {K : PySem.W.Frag} {h : Heap} {mg : Str → Option Value} {base : Heap} (B : HdB w K h mg) (T : HdT K mg base) : ∀ p ∈ tabs K, p.1 = (He.cT K ("_law_one_right", none)).2 → p.2 = "_law_one_right.<locals>.<lambda>" := by
    intro p hp e
    rcases List.mem_cons.mp hp with q | hp
    · rw [q]
    rcases List.mem_cons.mp hp with q | hp
    · rw [q] at e; exact absurd e.symm (tn__law_one_right__law_right_of B)
    cases hp
theorem hu__law_right_of {w : World} {K : PySem.W.Frag} {h : Heap} {mg : Str → Option Value} {base : Heap} (B : HdB w K h mg) (T : HdT K mg base) : ∀ p ∈ tabs K, p.1 = (He.cT K ("_law_right", none)).2 → p.2 = "_law_right.<locals>.<lambda>" := by
    intro p hp e
    rcases List.mem_cons.mp hp with q | hp
    · rw [q] at e; exact absurd e (tn__law_one_right__law_right_of B)
    rcases List.mem_cons.mp hp with q | hp
    · rw [q]
    cases hp
theorem h__law_pair_of {P : Program} {w : World} {K : PySem.W.Frag} {h : Heap} {mg : Str → Option Value} {base : Heap} (B : HdB w K h mg) (T : HdT K mg base) : Has P w K mg base CX0 1 "_law_pair" s__law_pair ["_law_thing_here"] (sp__law_pair K) := ok__law_pair (fr_of B) (D__law_pair_of B)
theorem h__law_due_of {P : Program} {w : World} {K : PySem.W.Frag} {h : Heap} {mg : Str → Option Value} {base : Heap} (B : HdB w K h mg) (T : HdT K mg base) : Has P w K mg base CX0 2 "_law_due" s__law_due ["_law_bag_here"] (sp__law_due K) := ok__law_due (fr_of B) (D__law_due_of B) (h__law_pair_of B T)
theorem h_is_whole_of {P : Program} {w : World} {K : PySem.W.Frag} {h : Heap} {mg : Str → Option Value} {base : Heap} (B : HdB w K h mg) (T : HdT K mg base) : Has P w K mg base CX0 1 "is_whole" s_is_whole ["thing"] (sp_is_whole K) := ok_is_whole (fr_of B) (D_is_whole_of B)
theorem h_is_from_of {P : Program} {w : World} {K : PySem.W.Frag} {h : Heap} {mg : Str → Option Value} {base : Heap} (B : HdB w K h mg) (T : HdT K mg base) : Has P w K mg base CX0 2 "is_from" s_is_from ["thing", "least"] (sp_is_from K) := ok_is_from (fr_of B) (D_is_from_of B) (h_is_whole_of B T)
theorem h_is_name_of {P : Program} {w : World} {K : PySem.W.Frag} {h : Heap} {mg : Str → Option Value} {base : Heap} (B : HdB w K h mg) (T : HdT K mg base) : Has P w K mg base CX0 1 "is_name" s_is_name ["thing"] (sp_is_name K) := ok_is_name (fr_of B) (c_LETTERS_of B) (D_is_name_of B)
theorem h_is_run_of {P : Program} {w : World} {K : PySem.W.Frag} {h : Heap} {mg : Str → Option Value} {base : Heap} (B : HdB w K h mg) (T : HdT K mg base) : Has P w K mg base CX0 3 "is_run" s_is_run ["thing"] (sp_is_run K) := ok_is_run (fr_of B) (D_is_run_of B) (h_is_from_of B T) (h_is_name_of B T)
theorem h_first_invalid_of {P : Program} {w : World} {K : PySem.W.Frag} {h : Heap} {mg : Str → Option Value} {base : Heap} (B : HdB w K h mg) (T : HdT K mg base) : Has P w K mg base CX0 4 "first_invalid" s_first_invalid ["thing", "most"] (sp_first_invalid K) := ok_first_invalid (fr_of B) (D_first_invalid_of B) (h_is_run_of B T)
theorem h_is_counts_of {P : Program} {w : World} {K : PySem.W.Frag} {h : Heap} {mg : Str → Option Value} {base : Heap} (B : HdB w K h mg) (T : HdT K mg base) : Has P w K mg base CX0 5 "is_counts" s_is_counts ["thing"] (sp_is_counts K) := ok_is_counts (fr_of B) (c_MAX_NAMES_of B) (D_is_counts_of B) (h_first_invalid_of B T)
theorem h__law_kind_of {P : Program} {w : World} {K : PySem.W.Frag} {h : Heap} {mg : Str → Option Value} {base : Heap} (B : HdB w K h mg) (T : HdT K mg base) : HasP P w K mg base 1 "_law_kind" s__law_kind ["_law_e"] (sp__law_kind K) := ok__law_kind (fr_of B) (xE_of B) (D__law_kind_of B)
theorem h__law_other_fields_of {P : Program} {w : World} {K : PySem.W.Frag} {h : Heap} {mg : Str → Option Value} {base : Heap} (B : HdB w K h mg) (T : HdT K mg base) : HasP P w K mg base 1 "_law_other_fields" s__law_other_fields ["_law_e"] (sp__law_other_fields K) := ok__law_other_fields (fr_of B) (xE_of B) (D__law_other_fields_of B)
theorem h__law_fields_of {P : Program} {w : World} {K : PySem.W.Frag} {h : Heap} {mg : Str → Option Value} {base : Heap} (B : HdB w K h mg) (T : HdT K mg base) : HasP P w K mg base 2 "_law_fields" s__law_fields ["_law_e"] (sp__law_fields K) := ok__law_fields (fr_of B) (xE_of B) (D__law_fields_of B) (h__law_other_fields_of B T)
theorem h_check_counts_of {P : Program} {w : World} {K : PySem.W.Frag} {h : Heap} {mg : Str → Option Value} {base : Heap} (B : HdB w K h mg) (T : HdT K mg base) : Has P w K mg base (L2.CX P w) 5 "check_counts" s_check_counts ["thing"] (sp_check_counts K) := ok_check_counts (fr_of B) (c_MAX_NAMES_of B) (x_InvalidCounts_of B T) (D_check_counts_of B) (h_first_invalid_of B T)
theorem h_sum_of_of {P : Program} {w : World} {K : PySem.W.Frag} {h : Heap} {mg : Str → Option Value} {base : Heap} (B : HdB w K h mg) (T : HdT K mg base) : Has P w K mg base CX0 1 "sum_of" s_sum_of ["pairs"] (sp_sum_of K) := ok_sum_of (fr_of B) (D_sum_of_of B)
theorem h_total_of {P : Program} {w : World} {K : PySem.W.Frag} {h : Heap} {mg : Str → Option Value} {base : Heap} (B : HdB w K h mg) (T : HdT K mg base) : Has P w K mg base (L2.CX P w) 6 "total" s_total ["counts"] (sp_total K) := ok_total (fr_of B) (D_total_of B) (h_check_counts_of B T) (h_sum_of_of B T)
theorem h_check_name_of {P : Program} {w : World} {K : PySem.W.Frag} {h : Heap} {mg : Str → Option Value} {base : Heap} (B : HdB w K h mg) (T : HdT K mg base) : Has P w K mg base (L2.CX P w) 4 "check_name" s_check_name ["thing"] (sp_check_name K) := ok_check_name (fr_of B) (x_InvalidName_of B T) (D_check_name_of B) (h_is_name_of B T)
theorem h_table_of_of {P : Program} {w : World} {K : PySem.W.Frag} {h : Heap} {mg : Str → Option Value} {base : Heap} (B : HdB w K h mg) (T : HdT K mg base) : Has P w K mg base CX0 1 "table_of" s_table_of ["pairs"] (sp_table_of K) := ok_table_of (fr_of B) (D_table_of_of B)
theorem h_count_of_of {P : Program} {w : World} {K : PySem.W.Frag} {h : Heap} {mg : Str → Option Value} {base : Heap} (B : HdB w K h mg) (T : HdT K mg base) : Has P w K mg base (L2.CX P w) 6 "count_of" s_count_of ["counts", "name"] (sp_count_of K) := ok_count_of (fr_of B) (D_count_of_of B) (h_check_counts_of B T) (h_check_name_of B T) (h_table_of_of B T)
theorem h_counts_of_table_of {P : Program} {w : World} {K : PySem.W.Frag} {h : Heap} {mg : Str → Option Value} {base : Heap} (B : HdB w K h mg) (T : HdT K mg base) : Has P w K mg base CX0 1 "counts_of_table" s_counts_of_table ["table"] (sp_counts_of_table K) := ok_counts_of_table (fr_of B) (D_counts_of_table_of B)
theorem h_added_of {P : Program} {w : World} {K : PySem.W.Frag} {h : Heap} {mg : Str → Option Value} {base : Heap} (B : HdB w K h mg) (T : HdT K mg base) : Has P w K mg base (L2.CX P w) 6 "added" s_added ["one", "other"] (sp_added K) := ok_added (fr_of B) (c_MAX_NAMES_of B) (x_TooManyNames_of B T) (D_added_of B) (h_check_counts_of B T) (h_counts_of_table_of B T) (h_table_of_of B T)
theorem h__law_one_right_of {P : Program} {w : World} {K : PySem.W.Frag} {h : Heap} {mg : Str → Option Value} {base : Heap} (B : HdB w K h mg) (T : HdT K mg base) : Has P w K mg base CX0 9 "_law_one_right" s__law_one_right ["_law_bag_here", "_law_good"] (sp__law_one_right K) := ok__law_one_right (fr_of B) (xE_of B) (D__law_caught_of B) (D__law_one_right_of B) (tb__law_one_right_of B T) (hu__law_one_right_of B T) (h__law_due_of B T) (h_is_counts_of B T) (h__law_kind_of B T) (h__law_fields_of B T) (h_total_of B T) (h_count_of_of B T) (h_added_of B T)
theorem h__law_read_errors_of {P : Program} {w : World} {K : PySem.W.Frag} {h : Heap} {mg : Str → Option Value} {base : Heap} (B : HdB w K h mg) (T : HdT K mg base) : Has P w K mg base CX0 3 "_law_read_errors" s__law_read_errors ["_law_made"] (sp__law_read_errors K) := ok__law_read_errors (fr_of B) (D__law_read_errors_of B) (h__law_kind_of B T) (h__law_fields_of B T)
theorem h__law_created_by_name_of {P : Program} {w : World} {K : PySem.W.Frag} {h : Heap} {mg : Str → Option Value} {base : Heap} (B : HdB w K h mg) (T : HdT K mg base) : Has P w K mg base CX0 4 "_law_created_by_name" s__law_created_by_name [] (sp__law_created_by_name K) := ok__law_created_by_name (fr_of B) (y_InvalidCounts_of B T) (y_InvalidTimes_of B T) (y_InvalidName_of B T) (y_InvalidCapacity_of B T) (y_InvalidText_of B T) (y_InvalidPlan_of B T) (y_InvalidOrder_of B T) (y_InvalidSummary_of B T) (y_InvalidIndex_of B T) (y_InvalidSlots_of B T) (y_InvalidNumber_of B T) (y_InvalidSize_of B T) (y_NotASummary_of B T) (y_InvalidLine_of B T) (y_InvalidAction_of B T) (y_CapacitiesDiffer_of B T) (D__law_created_by_name_of B)
theorem h__law_created_right_of {P : Program} {w : World} {K : PySem.W.Frag} {h : Heap} {mg : Str → Option Value} {base : Heap} (B : HdB w K h mg) (T : HdT K mg base) : Has P w K mg base CX0 5 "_law_created_right" s__law_created_right [] (sp__law_created_right K) := ok__law_created_right (fr_of B) (x0_NothingToUndo_of B) (x0_Busy_of B) (y_InvalidOrder_of B T) (y_InvalidSummary_of B T) (y_InvalidCounts_of B T) (y_InvalidTimes_of B T) (y_InvalidName_of B T) (y_InvalidCapacity_of B T) (y_InvalidSlots_of B T) (y_InvalidNumber_of B T) (y_InvalidSize_of B T) (y_InvalidText_of B T) (y_InvalidPlan_of B T) (y_CapacitiesDiffer_of B T) (y_NotASummary_of B T) (y_InvalidLine_of B T) (y_InvalidAction_of B T) (y_InvalidIndex_of B T) (y_TooManyActions_of B T) (y_TooManyNames_of B T) (D__law_created_right_of B) (h__law_read_errors_of B T) (h__law_created_by_name_of B T)
theorem h__law_draw_of {P : Program} {w : World} {K : PySem.W.Frag} {h : Heap} {mg : Str → Option Value} {base : Heap} (B : HdB w K h mg) (T : HdT K mg base) : Has P w K mg base CX0 1 "_law_draw" s__law_draw ["_law_pool_here", "_law_many"] (sp__law_draw K) := ok__law_draw (fr_of B) (D__law_draw_of B)
theorem h__law_words_of {P : Program} {w : World} {K : PySem.W.Frag} {h : Heap} {mg : Str → Option Value} {base : Heap} (B : HdB w K h mg) (T : HdT K mg base) : Has P w K mg base CX0 2 "_law_words" s__law_words ["_law_pool_here", "_law_many"] (sp__law_words K) := ok__law_words (fr_of B) (D__law_words_of B) (h__law_draw_of B T)
theorem h__law_often_of {P : Program} {w : World} {K : PySem.W.Frag} {h : Heap} {mg : Str → Option Value} {base : Heap} (B : HdB w K h mg) (T : HdT K mg base) : Has P w K mg base CX0 2 "_law_often" s__law_often ["_law_pool_here"] (sp__law_often K) := ok__law_often (fr_of B) (D__law_often_of B) (h__law_draw_of B T)
theorem h__law_bag_of {P : Program} {w : World} {K : PySem.W.Frag} {h : Heap} {mg : Str → Option Value} {base : Heap} (B : HdB w K h mg) (T : HdT K mg base) : Has P w K mg base CX0 3 "_law_bag" s__law_bag ["_law_pool_here", "_law_words_here", "_law_most"] (sp__law_bag K) := ok__law_bag (fr_of B) (D__law_bag_of B) (h__law_draw_of B T) (h__law_often_of B T)
theorem h__law_odd_of {P : Program} {w : World} {K : PySem.W.Frag} {h : Heap} {mg : Str → Option Value} {base : Heap} (B : HdB w K h mg) (T : HdT K mg base) : Has P w K mg base CX0 2 "_law_odd" s__law_odd ["_law_pool_here", "_law_word"] (sp__law_odd K) := ok__law_odd (fr_of B) (D__law_odd_of B) (h__law_draw_of B T)
theorem h__law_right_of {P : Program} {w : World} {K : PySem.W.Frag} {h : Heap} {mg : Str → Option Value} {base : Heap} (B : HdB w K h mg) (T : HdT K mg base) : Has P w K mg base CX0 10 "_law_right" s__law_right ["_law_pool_here"] (sp__law_right K) := ok__law_right (fr_of B) (xE_of B) (D__law_caught_of B) (D__law_right_of B) (tb__law_right_of B T) (hu__law_right_of B T) (h__law_words_of B T) (h__law_draw_of B T) (h__law_bag_of B T) (h__law_odd_of B T) (h__law_one_right_of B T) (h__law_kind_of B T) (h__law_fields_of B T) (h_count_of_of B T)
theorem h__law_pool_of {P : Program} {w : World} {K : PySem.W.Frag} {h : Heap} {mg : Str → Option Value} {base : Heap} (B : HdB w K h mg) (T : HdT K mg base) : Has P w K mg base CX0 1 "_law_pool" s__law_pool ["_law_cell_here"] (sp__law_pool K) := ok__law_pool (fr_of B) (D__law_pool_of B)
theorem h__law_cell_of {P : Program} {w : World} {K : PySem.W.Frag} {h : Heap} {mg : Str → Option Value} {base : Heap} (B : HdB w K h mg) (T : HdT K mg base) : Has P w K mg base CX0 1 "_law_cell" s__law_cell ["_law_script", "_law_k"] (sp__law_cell K) := ok__law_cell (fr_of B) (D__law_cell_of B)
theorem h_law_of {P : Program} {w : World} {K : PySem.W.Frag} {h : Heap} {mg : Str → Option Value} {base : Heap} (B : HdB w K h mg) (T : HdT K mg base) : Has P w K mg base CX0 11 "law" s_law ["_law_script"] (sp_law K) := ok_law (fr_of B) (D_law_of B) (h__law_one_right_of B T) (h__law_created_right_of B T) (h__law_right_of B T) (h__law_pool_of B T) (h__law_cell_of B T)
theorem facts {P : Program} {w : World} {K : PySem.W.Frag} {h : Heap} {mg : Str → Option Value} {f : Addr} (X : K.In h) (G : h.Ns mainGlobals mg) (hfa : mg ("law" : Str) = some (.ref f)) (c : He.SaysD fa fn K) (cx : (ex.all fun e => e K) = true) :
    ∃ fd : FuncData, (∀ (s : Shared) (v : Value), BindsTo s fd ⟨[v], []⟩ [("_law_script", v)]) ∧ ∀ base : Heap, (∀ p ∈ tf.map (He.cT K), TabB base mg p.1 p.2) → FnG P w K mg base CX0 11 f fd ["_law_script"] (sp_law K) := by
  have B : HdB w K h mg := ⟨X, G, c, cx⟩
  have D_law := D_law_of B
  have e := hfa.symm.trans D_law.glo
  cases e
  obtain ⟨fd, F⟩ := D_law.ex
  have b := FunD.bindsA (ps := ["_law_script"]) F fun _ _ _ _ _ _ us hl => match us, hl with | [_], _ => rfl
  refine ⟨fd, fun s v => b s [v] rfl, fun base htb => ?_⟩
  exact (h_law_of (P := P) B htb).fixed F
end TP
open PySem PySem.W PySem.Calls PyProof.Rows
set_option maxRecDepth 100000 in
set_option maxHeartbeats 0 in
theorem PySem.Challenge.cw_tallyplans_k02_errors_of_counts_holds : PySem.Challenge.rw_tallyplans_k02_errors_of_counts.Holds := by
  refine TP.frame ?hc
  case hc =>
    refine TP.walkGT (l := PySem.Challenge.rw_tallyplans_k02_errors_of_counts) (n := 63) (k := 11) (x := "_law_script") rfl (by decide) (by kernel_rfl) ⟨rfl, by decide, by decide⟩ ?F
    intro w mg fa h Y G hmg0
    obtain ⟨K, KX, c⟩ := Y
    have hmg : mg ("law" : PySem.Str) = some (.ref fa) := by
      have e : (HandSHeadRun.topDef (OpenLaw.row PySem.Challenge.rw_tallyplans_k02_errors_of_counts).prog 61).name = ("law" : PySem.Str) := by kernel_rfl
      rw [← e]
      exact hmg0
    obtain ⟨fd, hb, hF⟩ := TP.facts (P := (PySem.Challenge.rw_tallyplans_k02_errors_of_counts).prog) (w := w) KX G hmg c.t.d c.more
    refine ⟨K, KX, fd, TP.tf.map (He.cT K), TP.sp_law K, fun p hp => ?_, fun p hp => ?_, fun p hp => ?_, hb, fun H a ns hl hT hS => ?_, fun base _ _ ht => hF base ht⟩
    · obtain ⟨q, hq, rfl⟩ := List.mem_map.mp hp; exact c.empty q hq
    · obtain ⟨q, hq, rfl⟩ := List.mem_map.mp hp; exact c.out q hq
    · obtain ⟨q, hq, rfl⟩ := List.mem_map.mp hp; exact PySem.W.codeHd_of_K KX (c.hd q hq)
    · have hT2 : LamX.Tabs (TP.tabs K) H := fun p hp => by
        rcases List.mem_cons.mp hp with e | hp
        · rw [e]; exact LamX.TabS.nil (hT _ (List.mem_map.mpr ⟨("_law_one_right", none), by decide, rfl⟩))
        rcases List.mem_cons.mp hp with e | hp
        · rw [e]; exact LamX.TabS.nil (hT _ (List.mem_map.mpr ⟨("_law_right", none), by decide, rfl⟩))
        exact absurd hp List.not_mem_nil
      exact ⟨a, ns, rfl, hS, hl, hT2, fun _ => rfl⟩
