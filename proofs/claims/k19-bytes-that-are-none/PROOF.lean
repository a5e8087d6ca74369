import PyProof.Rows.All
import Wide.All
import OpenK.AllK
import Wide.FinOn
import KE.KStateDown
import HandS.ForMost
import HandS.More
import HandS.Flow
import HandS.Style
import HandS.Wide
import HandS.WideBits
import HandS.IsInst
import HandS.Defaults
import HandS.FStr
import HandS.DictComp
import HandS.Walk
import HandS.Exc
import HandS.WordsExc
import HandS.Head0
import HandS.Head1
import HandS.Head2
import HandS.HeadEnd
import HandS.HeadHook1
import HandS.HeadHook2
import PyProof.ReprRoads
import KE.GoesEnum
import KE.GoesMore
import HandS.TupAny
import HandS.RaiseMore
import PyProof.StrLawsRepr
import PyProof.StrOps2
import PyProof.StrBlockL
import PyProof.Rows.RegStrFacts
import HandS.MakeKw
import HandS.TupMul
import HandS.SortKw
import OpenK.KOps
import KE.KCallOwn
import KE.KEqDict
import HandS.TupSets
import KE.KSortTupAny
import PyProof.InstNe
import HandS.Text
import KE.DataMinMax
import HandS.Lambda
import HandS.ExcInit
import HandS.ExcIs
import HandS.ExcField
import HandS.HotCalls
import HandS.EndTab
import HandS.HeadHook4
import HandS.SetFor
import HandS.TryOnly
import HandS.Strs
import HandS.SortInts
import KE.KSortAsk
import HandS.ToBytes
import HandS.Bytes
import KE.KStrBytes
import HandS.Replace
import PyProof.CallFns
import KE.KAssignIn
import HandS.HeadHook3
import PySem.Challenge.RW_tallyplans_k19_bytes_that_are_none
set_option Elab.async false
set_option linter.all false
set_option maxRecDepth 100000
set_option maxHeartbeats 4000000
namespace TP
class StepX (G : Prop) (P : outParam Prop) : Prop where
  go : P → G
end TP
namespace TP
open PySem PySem.Spec PyProof.Rows L2
section
variable {X : Cx} {CX : CXT} {k : Nat} {f : Addr} {fd : FuncData} {ps ks : List Str} {sp : Sp} {E : XK} {x : Str} {st : Stmt} {p pos : Pos} {e : Expr} {es : List Expr} {kws : List Keyword} {t tk : TA}
def PosB (x : Str) (st : Stmt) (ps : List Str) : Prop := ∀ (kV doc pm : Value) (an : Option Addr) (cdv ct : Value) (us : List Value), us.length = ps.length →
  bindArgs (PySem.W.fnOf x x (defArgs st) (defBody st) (defScope st) .none kV doc pm an cdv ct) ⟨us, []⟩ = pure (ps.zip us)
end
end TP
namespace TP
open PySem PySem.Spec PyProof.Rows L2
def SameT (H H' : Hp) : Prop := ∀ a o, H a = some o → (∀ xs, o ≠ .lst xs) → (∀ kvs, o ≠ .dK kvs) → H' a = some o
theorem same_t {H H' : Hp} (s : Same H H') : SameT H H' := fun a o h _ _ => s a o h
theorem SameT.trans {H H1 H2 : Hp} (a : SameT H H1) (b : SameT H1 H2) : SameT H H2 := fun c o h n m => b c o (a c o h n m) n m
theorem SameT.lst {H : Hp} {l : Addr} {xs : List V} {u : HO} (h : H l = some (.lst xs)) : SameT H (upd H l u) := fun a o e n _ => by
  by_cases z : a = l
  · subst z; rw [h] at e; cases e; exact absurd rfl (n xs)
  · exact (upd_ne z).trans e
theorem SameT.sqt {K : PySem.W.Frag} {H H' : Hp} {a : Addr} {xs : List V} (s : SameT H H') (h : SqT K H a xs) : SqT K H' a xs := by
  rcases h with (h | ⟨o, h⟩) | h
  · exact .inl (.inl (s _ _ h (fun _ => nofun) fun _ => nofun))
  · exact .inl (.inr ⟨o, s _ _ h (fun _ => nofun) fun _ => nofun⟩)
  · exact .inr h
theorem sqt_same {K : PySem.W.Frag} {H H' : Hp} {a : Addr} {xs : List V} (s : Same H H') (h : SqT K H a xs) : SqT K H' a xs := (same_t s).sqt h
mutual
theorem dp_same {K : PySem.W.Frag} {H H' : Hp} (s : Same H H') : ∀ {v : V} {d : PyData}, Dp K H v d → Dp K H' v d
  | _, _, .non => .non
  | _, _, .bl b => .bl b
  | _, _, .int i => .int i
  | _, _, .str x => .str x
  | _, _, .lst h r => .lst (s.seq h) (dps_same s r)
  | _, _, .tup h r => .tup (sqt_same s h) (dps_same s r)
theorem dps_same {K : PySem.W.Frag} {H H' : Hp} (s : Same H H') : ∀ {vs : List V} {ds : List PyData}, DpAll K H vs ds → DpAll K H' vs ds
  | _, _, .nil => .nil
  | _, _, .cons h r => .cons (dp_same s h) (dps_same s r)
end
mutual
def flatD : PyData → Bool
  | .list _ => false
  | .dict _ => false
  | .tuple ds => flatDs ds
  | _ => true
def flatDs : List PyData → Bool
  | [] => true
  | d :: r => flatD d && flatDs r
end
mutual
theorem dp_flat {K : PySem.W.Frag} {H H' : Hp} (s : SameT H H') : ∀ {v : V} {d : PyData}, Dp K H v d → flatD d = true → Dp K H' v d
  | _, _, .non, _ => .non
  | _, _, .bl b, _ => .bl b
  | _, _, .int i, _ => .int i
  | _, _, .str x, _ => .str x
  | _, _, .lst h r, f => by simp [flatD] at f
  | _, _, .tup h r, f => .tup (s.sqt h) (dps_flat s r (by simpa [flatD] using f))
theorem dps_flat {K : PySem.W.Frag} {H H' : Hp} (s : SameT H H') : ∀ {vs : List V} {ds : List PyData}, DpAll K H vs ds → flatDs ds = true → DpAll K H' vs ds
  | _, _, .nil, _ => .nil
  | _, _, .cons h r, f => by
    have f2 := Bool.and_eq_true_iff.mp (show (flatD _ && flatDs _) = true from f)
    exact .cons (dp_flat s h f2.1) (dps_flat s r f2.2)
end
end TP
namespace TP
open PySem PySem.Spec PyProof.Rows L2
mutual
def rb : PyData → Nat
  | .none => 5
  | .bool _ => 5
  | .int _ => 1921
  | .str x => 10 * x.length + 2
  | .list ds => rbs ds + 2
  | .tuple ds => rbs ds + 3
  | .dict _ => 0
def rbs : List PyData → Nat
  | [] => 0
  | d :: r => rb d + 2 + rbs r
end
mutual
def okD : PyData → Bool
  | .none => true
  | .bool _ => true
  | .int i => decide (i.natAbs.log2 < 1920)
  | .str x => x.cps.toList.all fun c => decide (c < 16 ^ 8)
  | .list ds => okDs ds
  | .tuple ds => okDs ds
  | .dict _ => false
def okDs : List PyData → Bool
  | [] => true
  | d :: r => okD d && okDs r
end
theorem str_app_len (a b : Str) : (a ++ b).length = a.length + b.length := PySem.Str.length_append a b
theorem textFrom_le : ∀ (ts : List Str) (k : Nat) (acc : Str), (textFrom k acc ts).length ≤ acc.length + (ts.map fun t => t.length + 2).sum
  | [], k, acc => by simp [textFrom]
  | t :: r, k, acc => by
    have ih := textFrom_le r (k + 1) (acc ++ (if k > 0 then ", " else "" : String) ++ t)
    rw [str_app_len, str_app_len] at ih
    have e : (Str.ofString (if k > 0 then ", " else "" : String)).length ≤ 2 := by
      by_cases h : k > 0
      · rw [if_pos h]; decide
      · rw [if_neg h]; decide
    simp only [List.map_cons, List.sum_cons]
    show (textFrom (k + 1) _ r).length ≤ _
    omega
mutual
theorem shown_le : ∀ d : PyData, okD d = true → d.shown.length ≤ rb d
  | .none, _ => by simp only [PyData.shown, rb]; decide
  | .bool b, _ => by cases b <;> simp only [PyData.shown, rb] <;> decide
  | .int i, h => by
    have h' : i.natAbs.log2 < 1920 := of_decide_eq_true (by simpa [okD] using h)
    simp only [PyData.shown, rb]
    exact int_text_len_1921 h'
  | .str x, h => by
    simp only [PyData.shown, rb]
    refine PySem.StrLaws.reprText_len x fun c hc => ?_
    have h' := List.all_eq_true.mp (by simpa only [okD] using h) c hc
    exact of_decide_eq_true h'
  | .list ds, h => by
    have ih := shownAll_le ds (by simpa [okD] using h)
    simp only [PyData.shown, rb, listText]
    have h1 := textFrom_le (PyData.shownAll ds) 0 "["
    rw [str_app_len]
    have e1 : (Str.ofString "[").length = 1 := by decide
    have e2 : (Str.ofString "]").length = 1 := by decide
    rw [e1] at h1
    rw [e2]
    omega
  | .tuple ds, h => by
    have ih := shownAll_le ds (by simpa [okD] using h)
    simp only [PyData.shown, rb, tupleText]
    rw [str_app_len, str_app_len]
    have h1 := StrLaws.join_length_le (Str.ofString ", ") (PyData.shownAll ds)
    have e0 : (Str.ofString ", ").length = 2 := by decide
    rw [e0] at h1
    have e1 : (Str.ofString "(").length = 1 := by decide
    have e2 : (Str.ofString (if ((PyData.shownAll ds).length == 1) = true then ",)" else ")")).length ≤ 2 := by
      by_cases z : ((PyData.shownAll ds).length == 1) = true
      · rw [if_pos z]; decide
      · rw [if_neg z]; decide
    have e3 : ((PyData.shownAll ds).map fun t => t.length + 2).sum = ((PyData.shownAll ds).map (·.length)).sum + (PyData.shownAll ds).length * 2 := by
      generalize PyData.shownAll ds = l
      induction l with
      | nil => rfl
      | cons a r ih2 => simp only [List.map_cons, List.sum_cons, List.length_cons]; omega
    rw [e1]
    omega
  | .dict _, h => by simp [okD] at h
theorem shownAll_le : ∀ ds : List PyData, okDs ds = true → ((PyData.shownAll ds).map fun t => t.length + 2).sum ≤ rbs ds
  | [], _ => by simp [PyData.shownAll, rbs]
  | d :: r, h => by
    have h' := Bool.and_eq_true_iff.mp (show (okD d && okDs r) = true from h)
    have h1 := shown_le d h'.1
    have h2 := shownAll_le r h'.2
    simp only [PyData.shownAll, rbs, List.map_cons, List.sum_cons]
    omega
end
mutual
theorem showable_of : ∀ d : PyData, okD d = true → d.showable = true ∧ d.hasDict = false
  | .none, _ => by simp [PyData.showable, PyData.hasDict]
  | .bool b, _ => by simp [PyData.showable, PyData.hasDict]
  | .int i, h => by simp only [PyData.showable, PyData.hasDict]; exact ⟨by simpa [okD] using h, trivial⟩
  | .str x, _ => by simp [PyData.showable, PyData.hasDict]
  | .list ds, h => by
    have ih := showables_of ds (by simpa [okD] using h)
    simp only [PyData.showable, PyData.hasDict]; exact ih
  | .tuple ds, h => by
    have ih := showables_of ds (by simpa [okD] using h)
    simp only [PyData.showable, PyData.hasDict]; exact ih
  | .dict _, h => by simp [okD] at h
theorem showables_of : ∀ ds : List PyData, okDs ds = true → PyData.showableAll ds = true ∧ PyData.hasDictAll ds = false
  | [], _ => by simp [PyData.showableAll, PyData.hasDictAll]
  | d :: r, h => by
    have h' := Bool.and_eq_true_iff.mp (show (okD d && okDs r) = true from h)
    have h1 := showable_of d h'.1
    have h2 := showables_of r h'.2
    simp [PyData.showableAll, PyData.hasDictAll, h1, h2]
end
end TP
namespace TP
open PySem PySem.Spec PyProof.Rows L2
mutual
def szD : PyData → Bool
  | .str x => decide (x.length ≤ 100000)
  | .list ds => szDs ds
  | .tuple ds => szDs ds
  | _ => true
def szDs : List PyData → Bool
  | [] => true
  | d :: r => szD d && szDs r
end
def ltS (x y : Str) : Prop := x.cps.toList < y.cps.toList
instance (x y : Str) : Decidable (ltS x y) := inferInstanceAs (Decidable (x.cps.toList < y.cps.toList))
abbrev Bag := List (Str × Int)
def getT (t : Bag) (n : Str) : Int := ((t.find? fun p => decide (p.1 = n)).map (·.2)).getD 0
def putT (t : Bag) (n : Str) (c : Int) : Bag := if (t.any fun p => decide (p.1 = n)) = true then t.map (fun p => if p.1 = n then (p.1, c) else p) else t ++ [(n, c)]
end TP
namespace TP
open PySem PySem.Spec PyProof.Rows L2
def clsB (K : PySem.W.Frag) (C : Str) (fs : List Str) : Bool :=
  (He.Fa.glo C).ok K && ((He.Fa.cls C).ok K && (fs.all (fun f => (He.Fa.noat C f).ok K) && ((He.Fa.mkr C).ok K && (He.eqO (PySem.W.findIn K (.ref (He.ga K C)) "__class__") (some (some (.builtin "object.__class__"))) &&
    (He.eqO (PySem.W.specialIn K (.builtin "object.__class__") "__get__") (some (some (.builtin "getset_descriptor.__get__"))) && (decide (PySem.W.takesIn K (.builtin "object.__class__") = some true) &&
    (decide (PySem.W.mroIn K (He.ga K C) (.type "object") = some true) && (decide (PySem.W.kitOne K (.ref (He.ga K C)) (.ref (He.ga K C)) = some true) &&
    (["NoneType", "bool", "int", "str", "list", "tuple", "dict"].all (fun T => decide (PySem.W.kitOne K (.type T) (.ref (He.ga K C)) = some false)) &&
    (["int", "str", "list", "tuple", "dict", "bool"].all (fun T => decide (PySem.W.kitOne K (.ref (He.ga K C)) (.type T) = some false)) && (He.eqO (PySem.W.findIn K (.ref (He.ga K C)) "__ne__") (some (some (.builtin "object.__ne__"))) && (decide (PySem.W.kitOne K (.type "bytes") (.ref (He.ga K C)) = some false) && decide (PySem.W.kitOne K (.ref (He.ga K C)) (.type "bytes") = some false)))))))))))))
def etupB (K : PySem.W.Frag) (a : Addr) : Bool := match K.lookup a with
  | some ⟨.type c, _, .seq its _, _⟩ => decide (c = "tuple") && decide (its = #[])
  | _ => false
def dflA (C m : Str) (i : Nat) (K : PySem.W.Frag) : Addr := match K.lookup (He.ma K (He.ga K C) m) with
  | some ⟨_, _, .func fd, _⟩ => (match fd.defaults with
    | .ref T => (match K.lookup T with
      | some ⟨_, _, .seq its _, _⟩ => (match its[i]? with
        | some (.ref a) => a
        | _ => 0)
      | _ => 0)
    | _ => 0)
  | _ => 0
end TP
namespace TP
open PySem PySem.Spec PyProof.Rows L2
def minL : List Int → Int
  | [] => 0
  | [a] => a
  | a :: b :: r => if a ≤ minL (b :: r) then a else minL (b :: r)
abbrev keys (t : Bag) : List Str := t.map (·.1)
def minV (t : Bag) : Int := minL (t.map (·.2))
end TP
namespace TP
open PySem PySem.Spec PyProof.Rows L2
def SameU (H H' : Hp) : Prop := ∀ a o, H a = some o → ((∃ xs, o = .tup xs) ∨ ∃ ob xs, o = .frz ob (.tup xs)) → H' a = some o
theorem SameU.sqt {K : PySem.W.Frag} {H H' : Hp} {a : Addr} {xs : List V} (s : SameU H H') (h : SqT K H a xs) : SqT K H' a xs := by
  rcases h with (h | ⟨o, h⟩) | h
  · exact .inl (.inl (s _ _ h (.inl ⟨_, rfl⟩)))
  · exact .inl (.inr ⟨o, s _ _ h (.inr ⟨_, _, rfl⟩)⟩)
  · exact .inr h
mutual
theorem dp_flatU {K : PySem.W.Frag} {H H' : Hp} (s : SameU H H') : ∀ {v : V} {d : PyData}, Dp K H v d → flatD d = true → Dp K H' v d
  | _, _, .non, _ => .non
  | _, _, .bl b, _ => .bl b
  | _, _, .int i, _ => .int i
  | _, _, .str x, _ => .str x
  | _, _, .lst h r, f => by simp [flatD] at f
  | _, _, .tup h r, f => .tup (s.sqt h) (dps_flatU s r (by simpa [flatD] using f))
theorem dps_flatU {K : PySem.W.Frag} {H H' : Hp} (s : SameU H H') : ∀ {vs : List V} {ds : List PyData}, DpAll K H vs ds → flatDs ds = true → DpAll K H' vs ds
  | _, _, .nil, _ => .nil
  | _, _, .cons h r, f => by
    have f2 := Bool.and_eq_true_iff.mp (show (flatD _ && flatDs _) = true from f)
    exact .cons (dp_flatU s h f2.1) (dps_flatU s r f2.2)
end
theorem SameU.trans {H H1 H2 : Hp} (a : SameU H H1) (b : SameU H1 H2) : SameU H H2 := fun c o h n => b c o (a c o h n) n
end TP
namespace TP
open PySem PySem.Spec PyProof.Rows L2
section
variable {K : PySem.W.Frag} {H : Hp} {Q : VK} {a : Addr}
def dropT (t : Bag) (n : Str) : Bag := t.filter fun p => decide (p.1 ≠ n)
end
end TP
namespace TP
open PySem PySem.Spec PyProof.Rows L2
open Classical in
noncomputable def minN (l : List Str) : Str := if h : ∃ m, m ∈ l ∧ ∀ y ∈ l, ¬ ltS y m then Classical.choose h else Str.empty
def losersT (t : Bag) : List Str := (t.filter fun p => decide (p.2 = minV t)).map (·.1)
noncomputable def loserT (t : Bag) : Str := minN (losersT t)
open Classical in
noncomputable def plcT (c : Int) (t : Bag) (n : Str) (m : Int) : Bag :=
  if n ∈ keys t then putT t n (getT t n + m) else if (t.length : Int) = c then dropT t (loserT t) ++ [(n, minV t + m)] else t ++ [(n, m)]
noncomputable def plcs (c : Int) (t : Bag) (rs : Bag) : Bag := rs.foldl (fun t r => plcT c t r.1 r.2) t
end TP
namespace TPE
open PySem
inductive XB | ve | le | ae
def XB.nm : XB → String
  | .ve => "ValueError"
  | .le => "LookupError"
  | .ae => "ArithmeticError"
def XB.nw : XB → String
  | .ve => "ValueError.__new__"
  | .le => "LookupError.__new__"
  | .ae => "ArithmeticError.__new__"
def XB.it : XB → String
  | .ve => "ValueError.__init__"
  | .le => "LookupError.__init__"
  | .ae => "ArithmeticError.__init__"
abbrev XB.tl (b : XB) : List Value := [.type b.nm, .type "Exception", .type "BaseException", .type "object"]
theorem base (b : XB) : ExcBaseFacts b.nm b.nw b.it b.tl := by
  cases b
  · exact F.excBase_ValueError
  · exact F.excBase_LookupError
  · exact F.excBase_ArithmeticError
def refsXB (b : XB) : List Value → Bool
  | .ref _ :: r => refsXB b r
  | l => l == b.tl
end TPE
namespace TP
open PySem PySem.Spec PyProof.Rows L2
def oexS (K : PySem.W.Frag) (C : Addr) : Bool := match K.lookup C with
  | some ⟨.type "type", _, .cls cd, sl⟩ => (match cd.mro, sl.toList with
    | .ref C' :: bm, [_, _, _, _, some (.builtin n), _] => C' == C && ((n == "ValueError.__new__" && TPE.refsXB .ve bm || (n == "LookupError.__new__" && TPE.refsXB .le bm || n == "ArithmeticError.__new__" && TPE.refsXB .ae bm)) && (!cd.hasDel && cd.hasDict))
    | _, _ => false)
  | _ => false
def exkB (K : PySem.W.Frag) (C f : Str) : Bool :=
  (He.Fa.glo C).ok K && (oexS K (He.ga K C) && (He.eqO (PySem.W.findIn K (.ref (He.ga K C)) "__setattr__") (some (some (.builtin "object.__setattr__"))) && (decide (PySem.W.subIn K (.ref (He.ga K C)) (.type "BaseException") = some true) && (decide (PySem.W.typeIn K (.ref (He.ga K C)) = some (.type "type")) &&
    (PySem.W.keepIn K (.ref (He.ga K C)) && (He.eqO (PySem.W.findIn K (.ref (He.ga K C)) f) (some none) && (He.eqO (PySem.W.findIn K (.ref (He.ga K C)) "__init__") (some (some (.ref (He.ma K (He.ga K C) "__init__")))) &&
    (decide (PySem.W.typeIn K (.ref (He.ma K (He.ga K C) "__init__")) = some (.type "function")) && (He.eqO (PySem.W.findIn K (.ref (He.ga K C)) "__getattribute__") (some (some (.builtin "BaseException.__getattribute__"))) &&
    (He.eqO (PySem.W.findIn K (.ref (He.ga K C)) "__getattr__") (some none) && (PySem.W.hasDictIn K (He.ga K C) && (He.eqO (PySem.W.findIn K (.ref (He.ga K C)) "__class__") (some (some (.builtin "object.__class__"))) &&
    (He.eqO (PySem.W.specialIn K (.builtin "object.__class__") "__get__") (some (some (.builtin "getset_descriptor.__get__"))) && (decide (PySem.W.takesIn K (.builtin "object.__class__") = some true) && decide (PySem.W.mroIn K (He.ga K C) (.type "object") = some true)))))))))))))))
end TP
namespace TP
open PySem PySem.Spec PyProof.Rows L2 LamX
abbrev ExE := Str × Str × Str
def exTab : List ExE := [("InvalidCapacity", "capacity", "capacity"), ("InvalidName", "name", "name"), ("InvalidTimes", "times", "times"), ("InvalidCounts", "index", "counts"), ("InvalidSummary", "index", "summary"), ("InvalidOrder", "index", "order"), ("InvalidPlan", "index", "plan"), ("InvalidText", "text", "text"),
  ("InvalidSize", "size", "size"), ("InvalidNumber", "number", "number"), ("InvalidSlots", "slots", "slots"), ("InvalidIndex", "index", "index"), ("InvalidAction", "index", "action"), ("InvalidLine", "line", "line"), ("NotASummary", "value", "notsummary"),
  ("CapacitiesDiffer", "capacity", "differ"), ("TooManyNames", "found", "names"), ("TooManyActions", "found", "actions")]
def exTabA : List ExE := exTab ++ ([("Busy", "", "busy"), ("NothingToUndo", "", "undo")] : List ExE)
end TP
namespace TP
open PySem PySem.Spec PyProof.Rows L2
def exLeaf : List Str := ["InvalidCapacity", "InvalidName", "InvalidTimes", "InvalidCounts", "InvalidSummary", "InvalidOrder", "InvalidPlan", "InvalidText", "InvalidSize", "InvalidNumber", "InvalidSlots", "InvalidIndex", "InvalidAction", "InvalidLine", "NotASummary", "CapacitiesDiffer", "Busy", "NothingToUndo", "TooManyNames", "TooManyActions"]
def exBase : List Str := ["TallyError", "StateError", "SizeError"]
def exFlds : List Str := ["capacity", "name", "times", "index", "text", "size", "number", "slots", "line", "value", "found"]
def exSup (C : Str) : Str := if C = "CapacitiesDiffer" then "StateError" else if C = "Busy" then "StateError" else if C = "NothingToUndo" then "StateError" else if C = "TooManyNames" then "SizeError" else if C = "TooManyActions" then "SizeError" else "TallyError"
def exIs (e : ExE) (C : Str) : Bool := decide (C = e.1) || decide (C = exSup e.1)
def exhB (K : PySem.W.Frag) (C : Str) : Bool :=
  decide (PySem.W.subIn K (.ref (He.ga K C)) (.type "BaseException") = some true) && (He.eqO (PySem.W.findIn K (.ref (He.ga K C)) "__getattribute__") (some (some (.builtin "BaseException.__getattribute__"))) &&
    (He.eqO (PySem.W.findIn K (.ref (He.ga K C)) "__getattr__") (some none) && (PySem.W.hasDictIn K (He.ga K C) && (He.eqO (PySem.W.findIn K (.ref (He.ga K C)) "__class__") (some (some (.builtin "object.__class__"))) &&
    (He.eqO (PySem.W.specialIn K (.builtin "object.__class__") "__get__") (some (some (.builtin "getset_descriptor.__get__"))) && (decide (PySem.W.takesIn K (.builtin "object.__class__") = some true) && decide (PySem.W.mroIn K (He.ga K C) (.type "object") = some true)))))))
def exfB (K : PySem.W.Frag) : Bool :=
  exTabA.all (fun e => exhB K e.1) && ((exLeaf ++ exBase).all (fun C => (He.Fa.glo C).ok K) && (exTabA.all (fun e => (exLeaf ++ exBase).all fun C => decide (PySem.W.kitOne K (.ref (He.ga K e.1)) (.ref (He.ga K C)) = some (exIs e C))) &&
    (exTabA.all (fun e => decide (PySem.W.kitOne K (.ref (He.ga K e.1)) (.type "ValueError") = some (exIs e "TallyError")) && (decide (PySem.W.kitOne K (.ref (He.ga K e.1)) (.type "LookupError") = some (exIs e "StateError")) && decide (PySem.W.kitOne K (.ref (He.ga K e.1)) (.type "ArithmeticError") = some (exIs e "SizeError")))) &&
    (exTabA.all (fun e => exFlds.all fun f => He.eqO (PySem.W.findIn K (.ref (He.ga K e.1)) f) (some none)) && (exTabA.all (fun e => decide (PySem.W.exmAny K (.ref (He.ga K e.1)) [.ref (He.ga K "TallyError"), .ref (He.ga K "StateError"), .ref (He.ga K "SizeError")] = some true)) &&
    ((He.Fa.free "ValueError").ok K && ((He.Fa.free "LookupError").ok K && (He.Fa.free "ArithmeticError").ok K)))))))
end TP
namespace TP
open PySem PySem.Spec PyProof.Rows L2 LamX
def top (i : Nat) : Stmt := PySem.Challenge.pw_tallyplans_k19_bytes_that_are_none.main.body.getD i (.Pass ⟨0, 0, 0, 0⟩)
abbrev tabs (K : PySem.W.Frag) : List (Addr × Str) := [((He.cT K ("_law_one_right", none)).2, "_law_one_right.<locals>.<lambda>"), ((He.cT K ("_law_others_right", none)).2, "_law_others_right.<locals>.<lambda>")]
theorem tm__law_one_right (K : PySem.W.Frag) : ((He.cT K ("_law_one_right", none)).2, ("_law_one_right.<locals>.<lambda>" : Str)) ∈ tabs K := List.mem_cons_self
theorem tm__law_others_right (K : PySem.W.Frag) : ((He.cT K ("_law_others_right", none)).2, ("_law_others_right.<locals>.<lambda>" : Str)) ∈ tabs K := (List.mem_cons_of_mem _ List.mem_cons_self)
abbrev s_is_whole : Stmt := top 28
abbrev s_is_from : Stmt := top 29
abbrev s_is_between : Stmt := top 30
abbrev s_is_capacity : Stmt := top 31
abbrev s_is_name : Stmt := top 32
abbrev s_is_run : Stmt := top 33
abbrev s_first_invalid : Stmt := top 35
abbrev s_check_capacity : Stmt := top 36
abbrev s_counts_text : Stmt := top 38
abbrev s_Summary___init__ : Stmt := inClass (top 40) 0
abbrev s_Summary___str__ : Stmt := inClass (top 40) 3
abbrev s_Summary___repr__ : Stmt := inClass (top 40) 4
abbrev s_is_summary : Stmt := top 41
abbrev s_check_summary : Stmt := top 42
abbrev s_summary_or_none : Stmt := top 45
abbrev s_pack_summary : Stmt := top 46
abbrev s_block_at : Stmt := top 47
abbrev s_pair_at : Stmt := top 48
abbrev s_unpack_summary : Stmt := top 49
abbrev s__law_cell : Stmt := top 51
abbrev s__law_pool : Stmt := top 52
abbrev s__law_draw : Stmt := top 53
abbrev s__law_words : Stmt := top 54
abbrev s__law_often : Stmt := top 55
abbrev s__law_bag : Stmt := top 56
abbrev s__law_kind : Stmt := top 57
abbrev s__law_fields : Stmt := top 58
abbrev s__law_other_fields : Stmt := top 59
abbrev s__law_numbers : Stmt := top 61
abbrev s__law_pieces : Stmt := top 62
abbrev s__law_blob : Stmt := top 63
abbrev s__law_due : Stmt := top 64
abbrev s__law_changed : Stmt := top 65
abbrev s__law_one_right : Stmt := top 66
abbrev s__law_by_hand : Stmt := top 67
abbrev s__law_others_right : Stmt := top 68
abbrev s__law_right : Stmt := top 69
abbrev s_law : Stmt := top 70
abbrev s__law_caught : Stmt := top 60
theorem sc__law_caught : FnScope ["_law_call", "_law_e"] ["_law_call"] (defScope s__law_caught) := ⟨rfl, rfl, rfl, by decide +kernel, rfl, by decide +kernel, by decide +kernel⟩
theorem pb__law_caught : PosB "_law_caught" s__law_caught ["_law_call"] := fun _ _ _ _ _ _ us hl => match us, hl with | [_], _ => rfl
abbrev s_InvalidCapacity___init__ : Stmt := inClass (top 3) 0
theorem sc_InvalidCapacity___init__ : FnScope ["self", "capacity"] ["self", "capacity"] (defScope s_InvalidCapacity___init__) := ⟨rfl, rfl, rfl, by decide +kernel, rfl, by decide +kernel, by decide +kernel⟩
abbrev s_InvalidSummary___init__ : Stmt := inClass (top 7) 0
theorem sc_InvalidSummary___init__ : FnScope ["self", "index"] ["self", "index"] (defScope s_InvalidSummary___init__) := ⟨rfl, rfl, rfl, by decide +kernel, rfl, by decide +kernel, by decide +kernel⟩
abbrev s_NotASummary___init__ : Stmt := inClass (top 17) 0
theorem sc_NotASummary___init__ : FnScope ["self", "value"] ["self", "value"] (defScope s_NotASummary___init__) := ⟨rfl, rfl, rfl, by decide +kernel, rfl, by decide +kernel, by decide +kernel⟩
abbrev s_InvalidText___init__ : Stmt := inClass (top 10) 0
theorem sc_InvalidText___init__ : FnScope ["self", "text"] ["self", "text"] (defScope s_InvalidText___init__) := ⟨rfl, rfl, rfl, by decide +kernel, rfl, by decide +kernel, by decide +kernel⟩
def d_is_whole : He.DefD := ⟨("is_whole", none), "is_whole", "is_whole", defArgs s_is_whole, defBody s_is_whole, defScope s_is_whole, [], []⟩
def d_is_from : He.DefD := ⟨("is_from", none), "is_from", "is_from", defArgs s_is_from, defBody s_is_from, defScope s_is_from, [], []⟩
def d_is_between : He.DefD := ⟨("is_between", none), "is_between", "is_between", defArgs s_is_between, defBody s_is_between, defScope s_is_between, [], []⟩
def d_is_capacity : He.DefD := ⟨("is_capacity", none), "is_capacity", "is_capacity", defArgs s_is_capacity, defBody s_is_capacity, defScope s_is_capacity, [], []⟩
def d_is_name : He.DefD := ⟨("is_name", none), "is_name", "is_name", defArgs s_is_name, defBody s_is_name, defScope s_is_name, [], []⟩
def d_is_run : He.DefD := ⟨("is_run", none), "is_run", "is_run", defArgs s_is_run, defBody s_is_run, defScope s_is_run, [], []⟩
def d_first_invalid : He.DefD := ⟨("first_invalid", none), "first_invalid", "first_invalid", defArgs s_first_invalid, defBody s_first_invalid, defScope s_first_invalid, [], []⟩
def d_check_capacity : He.DefD := ⟨("check_capacity", none), "check_capacity", "check_capacity", defArgs s_check_capacity, defBody s_check_capacity, defScope s_check_capacity, [], []⟩
def d_counts_text : He.DefD := ⟨("counts_text", none), "counts_text", "counts_text", defArgs s_counts_text, defBody s_counts_text, defScope s_counts_text, [], []⟩
def d_Summary___init__ : He.DefD := ⟨("Summary", some "__init__"), "__init__", "Summary.__init__", defArgs s_Summary___init__, defBody s_Summary___init__, defScope s_Summary___init__, [.adr (dflA "Summary" "__init__" 0)], []⟩
def d_Summary___str__ : He.DefD := ⟨("Summary", some "__str__"), "__str__", "Summary.__str__", defArgs s_Summary___str__, defBody s_Summary___str__, defScope s_Summary___str__, [], []⟩
def d_Summary___repr__ : He.DefD := ⟨("Summary", some "__repr__"), "__repr__", "Summary.__repr__", defArgs s_Summary___repr__, defBody s_Summary___repr__, defScope s_Summary___repr__, [], []⟩
def d_is_summary : He.DefD := ⟨("is_summary", none), "is_summary", "is_summary", defArgs s_is_summary, defBody s_is_summary, defScope s_is_summary, [], []⟩
def d_check_summary : He.DefD := ⟨("check_summary", none), "check_summary", "check_summary", defArgs s_check_summary, defBody s_check_summary, defScope s_check_summary, [], []⟩
def d_summary_or_none : He.DefD := ⟨("summary_or_none", none), "summary_or_none", "summary_or_none", defArgs s_summary_or_none, defBody s_summary_or_none, defScope s_summary_or_none, [], []⟩
def d_pack_summary : He.DefD := ⟨("pack_summary", none), "pack_summary", "pack_summary", defArgs s_pack_summary, defBody s_pack_summary, defScope s_pack_summary, [], []⟩
def d_block_at : He.DefD := ⟨("block_at", none), "block_at", "block_at", defArgs s_block_at, defBody s_block_at, defScope s_block_at, [], []⟩
def d_pair_at : He.DefD := ⟨("pair_at", none), "pair_at", "pair_at", defArgs s_pair_at, defBody s_pair_at, defScope s_pair_at, [], []⟩
def d_unpack_summary : He.DefD := ⟨("unpack_summary", none), "unpack_summary", "unpack_summary", defArgs s_unpack_summary, defBody s_unpack_summary, defScope s_unpack_summary, [], []⟩
def d__law_cell : He.DefD := ⟨("_law_cell", none), "_law_cell", "_law_cell", defArgs s__law_cell, defBody s__law_cell, defScope s__law_cell, [], []⟩
def d__law_pool : He.DefD := ⟨("_law_pool", none), "_law_pool", "_law_pool", defArgs s__law_pool, defBody s__law_pool, defScope s__law_pool, [], []⟩
def d__law_draw : He.DefD := ⟨("_law_draw", none), "_law_draw", "_law_draw", defArgs s__law_draw, defBody s__law_draw, defScope s__law_draw, [], []⟩
def d__law_words : He.DefD := ⟨("_law_words", none), "_law_words", "_law_words", defArgs s__law_words, defBody s__law_words, defScope s__law_words, [], []⟩
def d__law_often : He.DefD := ⟨("_law_often", none), "_law_often", "_law_often", defArgs s__law_often, defBody s__law_often, defScope s__law_often, [], []⟩
def d__law_bag : He.DefD := ⟨("_law_bag", none), "_law_bag", "_law_bag", defArgs s__law_bag, defBody s__law_bag, defScope s__law_bag, [], []⟩
def d__law_kind : He.DefD := ⟨("_law_kind", none), "_law_kind", "_law_kind", defArgs s__law_kind, defBody s__law_kind, defScope s__law_kind, [], []⟩
def d__law_fields : He.DefD := ⟨("_law_fields", none), "_law_fields", "_law_fields", defArgs s__law_fields, defBody s__law_fields, defScope s__law_fields, [], []⟩
def d__law_other_fields : He.DefD := ⟨("_law_other_fields", none), "_law_other_fields", "_law_other_fields", defArgs s__law_other_fields, defBody s__law_other_fields, defScope s__law_other_fields, [], []⟩
def d__law_numbers : He.DefD := ⟨("_law_numbers", none), "_law_numbers", "_law_numbers", defArgs s__law_numbers, defBody s__law_numbers, defScope s__law_numbers, [], []⟩
def d__law_pieces : He.DefD := ⟨("_law_pieces", none), "_law_pieces", "_law_pieces", defArgs s__law_pieces, defBody s__law_pieces, defScope s__law_pieces, [], []⟩
def d__law_blob : He.DefD := ⟨("_law_blob", none), "_law_blob", "_law_blob", defArgs s__law_blob, defBody s__law_blob, defScope s__law_blob, [], []⟩
def d__law_due : He.DefD := ⟨("_law_due", none), "_law_due", "_law_due", defArgs s__law_due, defBody s__law_due, defScope s__law_due, [], []⟩
def d__law_changed : He.DefD := ⟨("_law_changed", none), "_law_changed", "_law_changed", defArgs s__law_changed, defBody s__law_changed, defScope s__law_changed, [], []⟩
def d__law_one_right : He.DefD := ⟨("_law_one_right", none), "_law_one_right", "_law_one_right", defArgs s__law_one_right, defBody s__law_one_right, defScope s__law_one_right, [], []⟩
def d__law_by_hand : He.DefD := ⟨("_law_by_hand", none), "_law_by_hand", "_law_by_hand", defArgs s__law_by_hand, defBody s__law_by_hand, defScope s__law_by_hand, [], []⟩
def d__law_others_right : He.DefD := ⟨("_law_others_right", none), "_law_others_right", "_law_others_right", defArgs s__law_others_right, defBody s__law_others_right, defScope s__law_others_right, [], []⟩
def d__law_right : He.DefD := ⟨("_law_right", none), "_law_right", "_law_right", defArgs s__law_right, defBody s__law_right, defScope s__law_right, [], []⟩
def d_law : He.DefD := ⟨("law", none), "law", "law", defArgs s_law, defBody s_law, defScope s_law, [], []⟩
def d_InvalidCapacity___init__ : He.DefD := ⟨("InvalidCapacity", some "__init__"), "__init__", "InvalidCapacity.__init__", defArgs s_InvalidCapacity___init__, defBody s_InvalidCapacity___init__, defScope s_InvalidCapacity___init__, [], []⟩
def d_InvalidSummary___init__ : He.DefD := ⟨("InvalidSummary", some "__init__"), "__init__", "InvalidSummary.__init__", defArgs s_InvalidSummary___init__, defBody s_InvalidSummary___init__, defScope s_InvalidSummary___init__, [], []⟩
def d_NotASummary___init__ : He.DefD := ⟨("NotASummary", some "__init__"), "__init__", "NotASummary.__init__", defArgs s_NotASummary___init__, defBody s_NotASummary___init__, defScope s_NotASummary___init__, [], []⟩
def d_InvalidText___init__ : He.DefD := ⟨("InvalidText", some "__init__"), "__init__", "InvalidText.__init__", defArgs s_InvalidText___init__, defBody s_InvalidText___init__, defScope s_InvalidText___init__, [], []⟩
def d__law_caught : He.DefD := ⟨("_law_caught", none), "_law_caught", "_law_caught", defArgs s__law_caught, defBody s__law_caught, defScope s__law_caught, [], []⟩
def fn0 : List He.DefD := [d_is_whole, d_is_from, d_is_between, d_is_capacity, d_is_name, d_is_run, d_first_invalid, d_check_capacity, d_counts_text, d_Summary___init__, d_Summary___str__, d_Summary___repr__, d_is_summary, d_check_summary, d_summary_or_none, d_pack_summary, d_block_at, d_pair_at, d_unpack_summary, d__law_cell, d__law_pool, d__law_draw, d__law_words, d__law_often, d__law_bag, d__law_kind, d__law_fields, d__law_other_fields, d__law_numbers, d__law_pieces, d__law_blob, d__law_due, d__law_changed, d__law_one_right, d__law_by_hand, d__law_others_right, d__law_right, d_law, d_InvalidCapacity___init__, d_InvalidSummary___init__, d_NotASummary___init__, d_InvalidText___init__, d__law_caught]
def fn : List He.DefD := fn0
def fa : List He.Fa := [.glo "is_whole", .glo "is_from", .glo "is_between", .glo "is_capacity", .glo "is_name", .glo "is_run", .glo "first_invalid", .glo "check_capacity", .glo "counts_text", .meth "Summary" "__init__", .meth "Summary" "__str__", .meth "Summary" "__repr__", .glo "is_summary", .glo "check_summary", .glo "summary_or_none", .glo "pack_summary", .glo "block_at", .glo "pair_at", .glo "unpack_summary", .glo "_law_cell", .glo "_law_pool", .glo "_law_draw", .glo "_law_words", .glo "_law_often", .glo "_law_bag", .glo "_law_kind", .glo "_law_fields", .glo "_law_other_fields", .glo "_law_numbers", .glo "_law_pieces", .glo "_law_blob", .glo "_law_due", .glo "_law_changed", .glo "_law_one_right", .glo "_law_by_hand", .glo "_law_others_right", .glo "_law_right", .glo "law", .meth "InvalidCapacity" "__init__", .meth "InvalidSummary" "__init__", .meth "NotASummary" "__init__", .meth "InvalidText" "__init__", .glo "_law_caught", .free "len", .free "isinstance", .free "range", .free "enumerate", .free "zip", .free "reversed", .free "int", .free "str", .free "bool", .free "tuple", .free "list", .free "dict", .free "bytes", .free "set", .free "sum", .free "all", .free "any", .free "abs", .free "min", .free "max", .free "sorted", .free "repr", .free "divmod", .free "type", .free "map", .free "iter", .free "next", .int "MAX_CAPACITY" 8, .str "LETTERS" "abcdefghijklmnopqrstuvwxyz", .int "FIRST_LETTER" 97]
abbrev R : PySem.W.OpenRow := PySem.W.OpenLaw.row PySem.Challenge.rw_tallyplans_k19_bytes_that_are_none
def tf : List He.Defn := [("_law_one_right", none), ("_law_others_right", none)]
def ex : List (PySem.W.Frag → Bool) := [fun K => clsB K "Summary" ["capacity", "counts", "__bool__"], fun K => etupB K (dflA "Summary" "__init__" 0 K), fun K => exkB K "InvalidCapacity" "capacity", fun K => exkB K "InvalidSummary" "index", fun K => exkB K "NotASummary" "value", fun K => exkB K "InvalidText" "text", fun K => decide (PySem.W.exmOne K (.ref (He.ga K "InvalidSummary")) (.ref (He.ga K "InvalidSummary")) = some true), exfB, fun K => decide ((He.cT K ("_law_one_right", none)).2 ≠ (He.cT K ("_law_others_right", none)).2)]
def exB : PySem.W.Frag → Bool := fun K => ex.all fun e => e K
end TP
namespace TP
open PySem PySem.Spec PyProof.Rows L2
/-! what the head looks at: the objects that the globals reach, a level at a time, each once (a Nat's bits tell which are seen) -/
def addY (z : Nat × List Addr × List Addr) (a : Addr) : Nat × List Addr × List Addr := match Nat.beq (Nat.land (Nat.shiftRight z.1 a) 1) 1 with
  | true => z
  | false => (Nat.lor z.1 (Nat.shiftLeft 1 a), a :: z.2.1, a :: z.2.2)
def levY (g : Addr → Option Obj) : Nat → Nat × List Addr × List Addr → List Addr
  | 0, z => z.2.1.reverse
  | n + 1, z => levY g n ((z.2.2.flatMap fun a => match g a with
    | some o => He.refsD o
    | none => []).foldl addY (z.1, z.2.1, []))
def asY (g : Addr → Option Obj) (n : Nat) : List Addr := levY g n (addY (0, [], []) mainGlobals)
def KY (n : Nat) (g : Addr → Option Obj) : PySem.W.Frag := He.frT g (asY g n)
def obsY (n : Nat) (fa : List He.Fa) (fn : List He.DefD) (ts : List He.Tab) (tf : List He.Defn) (ex : PySem.W.Frag → Bool) (g : Addr → Option Obj) : He.AlX := (He.obsT fa fn ts (KY n g), ex (KY n g) && He.tabsB g tf (KY n g))
theorem saysY {as : List Addr} {fa : List He.Fa} {fn : List He.DefD} {ts : List He.Tab} {tf : List He.Defn} {ex : PySem.W.Frag → Bool} {w : World} {h : Heap} (e : ((He.obsT fa fn ts (He.frT h.get? as), ex (He.frT h.get? as) && He.tabsB h.get? tf (He.frT h.get? as)) : He.AlX) = He.valX fn ts w) : He.SaysX fa fn ts tf ex w h (He.frT h.get? as) := by
  have e1 := congrArg (fun z : He.AlX => z.1) e
  have e2 : (ex (He.frT h.get? as) && He.tabsB h.get? tf (He.frT h.get? as)) = true := congrArg (fun z : He.AlX => z.2) e
  rw [Bool.and_eq_true] at e2
  have tb : ∀ p ∈ tf, PySem.W.codeHdIn (He.frT h.get? as) (He.cT (He.frT h.get? as) p).1 (He.cT (He.frT h.get? as) p).2 = true ∧ ∃ o, h.get? (He.cT (He.frT h.get? as) p).2 = some o ∧ He.emptyTab o = true := fun p hp => by
    have a := List.all_eq_true.mp e2.2 p hp
    rw [Bool.and_eq_true] at a
    refine ⟨a.1, ?_⟩
    have b := a.2
    split at b
    · rename_i o q; exact ⟨o, q, b⟩
    · cases b
  refine ⟨e1, e2.1, fun p hp => (tb p hp).1, fun p hp => ?_, fun p hp => ?_⟩
  · obtain ⟨o, q, z⟩ := (tb p hp).2
    exact He.frT_none q z
  · obtain ⟨o, q, z⟩ := (tb p hp).2
    rw [q, He.emptyTab_eq z]
def hookY (n : Nat) (fa : List He.Fa) (fn : List He.DefD) (ts : List He.Tab) (tf : List He.Defn) (ex : PySem.W.Frag → Bool) : PySem.W.Hook where
  α := He.AlX
  obs := fun s => obsY n fa fn ts tf ex s.heap.get?
  val := fun w => He.valX fn ts w
  says := fun w h => ∃ K : PySem.W.Frag, K.In h ∧ He.SaysX fa fn ts tf ex w h K
  of := fun _ _ e => ⟨_, He.frT_in, saysY e⟩
  keeps := fun _ _ _ ⟨K, hK, c⟩ k => ⟨K, PySem.W.Frag.In.keeps hK k, ⟨c.t, c.more, c.hd, c.out, fun p hp => k _ _ (c.empty p hp)⟩⟩
theorem obsY_eq {n : Nat} {fa : List He.Fa} {fn : List He.DefD} {ts : List He.Tab} {tf : List He.Defn} {ex : PySem.W.Frag → Bool} {g : Addr → Option Obj} {s : Shared} (h : ∀ a, g a = s.heap.get? a) : obsY n fa fn ts tf ex g = (hookY n fa fn ts tf ex).obs s := by
  have e : g = s.heap.get? := funext h
  rw [e] <;> rfl
/-! the looks in parts: each part runs the top for itself -/
noncomputable def EndY (r : PySem.W.OpenRow) (M : Nat) (w : World) (os : OsState) : Option PySem.W.SharedT := HandSHeadRun.endF (HandSHeadRun.stepQ (HandSHeadRun.denQ HandSHeadRun.tabQ) r.prog w) M r.prog w os
def RunF (r : PySem.W.OpenRow) (M n : Nat) (fn : List He.DefD) (w : World) : Prop :=
  ∀ os : OsState, (EndY r M w os).map (fun s => (fn.all fun d => d.ok (KY n (HandSHeadRun.getT s)), fn.map fun d => He.fnW (KY n (HandSHeadRun.getT s)) d.at_)) = some (true, fn.map He.DefD.val)
def RunA (r : PySem.W.OpenRow) (q : Program) (loose : List Str) (M n : Nat) (fa : List He.Fa) (ts : List He.Tab) (tf : List He.Defn) (ex : PySem.W.Frag → Bool) (w : World) : Prop :=
  ∀ os : OsState, (EndY r M w os).map (fun s => (HandSHeadRun.looksF r.prog (PySem.W.boot_heap w.params) s.abs, HandSHeadRun.seenQ q loose (importedModules r.prog.main.body) (fun s => PySem.W.xlAt q [] s && PySem.W.recOk r.toRowW.records s) s.abs,
    ((fa.all fun f => f.ok (KY n (HandSHeadRun.getT s))), ts.map fun t => He.dicW (KY n (HandSHeadRun.getT s)) (t.1 (KY n (HandSHeadRun.getT s)))), ex (KY n (HandSHeadRun.getT s)) && He.tabsB (HandSHeadRun.getT s) tf (KY n (HandSHeadRun.getT s)))) =
    some (true, PySem.W.openGood q loose, (true, ts.map fun t => some (He.keysIn w.params t.2)), true)
def RunL (r : PySem.W.OpenRow) (q : Program) (loose : List Str) (M : Nat) (w : World) : Prop :=
  ∀ os : OsState, (EndY r M w os).map (fun s => (HandSHeadRun.looksF r.prog (PySem.W.boot_heap w.params) s.abs, HandSHeadRun.seenQ q loose (importedModules r.prog.main.body) (fun s => PySem.W.xlAt q [] s && PySem.W.recOk r.toRowW.records s) s.abs)) = some (true, PySem.W.openGood q loose)
def RunX (r : PySem.W.OpenRow) (M n : Nat) (fa : List He.Fa) (ts : List He.Tab) (tf : List He.Defn) (ex : PySem.W.Frag → Bool) (w : World) : Prop :=
  ∀ os : OsState, (EndY r M w os).map (fun s => (((fa.all fun f => f.ok (KY n (HandSHeadRun.getT s))), ts.map fun t => He.dicW (KY n (HandSHeadRun.getT s)) (t.1 (KY n (HandSHeadRun.getT s)))), ex (KY n (HandSHeadRun.getT s)) && He.tabsB (HandSHeadRun.getT s) tf (KY n (HandSHeadRun.getT s)))) =
    some ((true, ts.map fun t => some (He.keysIn w.params t.2)), true)
theorem RunA.of {r : PySem.W.OpenRow} {q : Program} {loose : List Str} {M n : Nat} {fa : List He.Fa} {ts : List He.Tab} {tf : List He.Defn} {ex : PySem.W.Frag → Bool} {w : World} (h1 : RunL r q loose M w) (h2 : RunX r M n fa ts tf ex w) : RunA r q loose M n fa ts tf ex w := fun os => by
  obtain ⟨s, e, a⟩ := Option.map_eq_some_iff.mp (h1 os)
  obtain ⟨s', e', b⟩ := Option.map_eq_some_iff.mp (h2 os)
  rw [e] at e'
  cases e'
  obtain ⟨a1, a2⟩ := Prod.mk.inj a
  obtain ⟨b1, b2⟩ := Prod.mk.inj b
  rw [e, Option.map_some, a1, a2, b1, b2]
theorem RunF.app {r : PySem.W.OpenRow} {M n : Nat} {f1 f2 : List He.DefD} {w : World} (h1 : RunF r M n f1 w) (h2 : RunF r M n f2 w) : RunF r M n (f1 ++ f2) w := fun os => by
  obtain ⟨s, e, a⟩ := Option.map_eq_some_iff.mp (h1 os)
  obtain ⟨s', e', b⟩ := Option.map_eq_some_iff.mp (h2 os)
  rw [e] at e'
  cases e'
  obtain ⟨a1, a2⟩ := Prod.mk.inj a
  obtain ⟨b1, b2⟩ := Prod.mk.inj b
  rw [e, Option.map_some, List.all_append, a1, b1, List.map_append, a2, b2, List.map_append]
  rfl
theorem runY_of {r : PySem.W.OpenRow} {q : Program} {loose : List Str} {M n : Nat} {fa : List He.Fa} {fn : List He.DefD} {ts : List He.Tab} {tf : List He.Defn} {ex : PySem.W.Frag → Bool} {w : World} (hA : RunA r q loose M n fa ts tf ex w) (hF : RunF r M n fn w) :
    HandSHeadRun.RunEq r q (hookY n fa fn ts tf ex) (fun s => obsY n fa fn ts tf ex (HandSHeadRun.getT s)) M loose w := fun os => by
  obtain ⟨s, e, a⟩ := Option.map_eq_some_iff.mp (hA os)
  obtain ⟨s', e', b⟩ := Option.map_eq_some_iff.mp (hF os)
  rw [e] at e'
  cases e'
  obtain ⟨a1, a⟩ := Prod.mk.inj a
  obtain ⟨a2, a⟩ := Prod.mk.inj a
  obtain ⟨a3, a5⟩ := Prod.mk.inj a
  obtain ⟨a3, a4⟩ := Prod.mk.inj a3
  obtain ⟨b1, b2⟩ := Prod.mk.inj b
  show (EndY r M w os).map _ = _
  rw [e, Option.map_some]
  have e1 : He.obsT fa fn ts (KY n (HandSHeadRun.getT s)) = He.valT fn ts w := by
    unfold He.obsT He.valT He.obsD He.valD
    rw [a3, b1, b2, a4]
    rfl
  have e2 : obsY n fa fn ts tf ex (HandSHeadRun.getT s) = He.valX fn ts w := by
    unfold obsY He.valX
    rw [e1, a5]
  show some (_, _, obsY n fa fn ts tf ex (HandSHeadRun.getT s)) = some (true, PySem.W.openGood q loose, He.valX fn ts w)
  rw [a1, a2, e2]
end TP
namespace TP
open PySem PySem.Spec PyProof.Rows L2 LamX
abbrev hk : PySem.W.Hook := hookY 6 fa fn [] tf exB
def ob (s : PySem.W.SharedT) : He.AlX := obsY 6 fa fn [] tf exB (HandSHeadRun.getT s)
theorem ob_eq (s : PySem.W.SharedT) : ob s = hk.obs s.abs := obsY_eq (HandSHeadRun.getT_eq s)
def loose0 : List Str := ["_wall", "TallyError", "InvalidCapacity", "InvalidName", "InvalidTimes", "InvalidCounts", "InvalidSummary", "InvalidOrder", "InvalidPlan", "InvalidText", "InvalidSize", "InvalidNumber", "InvalidSlots", "InvalidIndex", "InvalidAction", "InvalidLine", "NotASummary", "StateError", "CapacitiesDiffer", "Busy", "NothingToUndo", "SizeError", "TooManyNames", "TooManyActions", "MAX_CAPACITY", "LETTERS", "is_whole", "is_from", "is_between", "is_capacity"]
def loose1 : List Str := ["is_name", "is_run", "first_invalid", "check_capacity", "counts_text", "Summary", "is_summary", "check_summary", "FIRST_LETTER", "summary_or_none", "pack_summary", "block_at", "pair_at", "unpack_summary", "_law_cell", "_law_pool", "_law_draw", "_law_words", "_law_often", "_law_bag", "_law_kind", "_law_fields", "_law_other_fields", "_law_caught", "_law_numbers", "_law_pieces", "_law_blob", "_law_due", "_law_changed", "_law_one_right"]
def loose2 : List Str := ["_law_by_hand", "_law_others_right", "_law_right"]
def loose : List Str := loose0 ++ loose1 ++ loose2
theorem runL0 (w : World) : RunL R (PySem.W.view R.prog [70]) loose 16000 w := by
  intro os
  kernel_rfl
theorem runX0 (w : World) : RunX R 16000 6 fa [] tf exB w := by
  intro os
  kernel_rfl
theorem runA0 (w : World) : RunA R (PySem.W.view R.prog [70]) loose 16000 6 fa [] tf exB w := RunA.of (runL0 w) (runX0 w)
theorem runF0_0 (w : World) : RunF R 16000 6 fn0 w := by
  intro os
  kernel_rfl
theorem run_0 (w : World) : HandSHeadRun.RunEq R (PySem.W.view R.prog [70]) hk ob 16000 loose w := runY_of (runA0 w) (runF0_0 w)
theorem run (w : World) : HandSHeadRun.RunEq R (PySem.W.view R.prog [70]) hk ob 16000 loose w := run_0 w
end TP
open PySem PySem.W PySem.Calls PyProof.Rows in
set_option maxRecDepth 100000 in
set_option maxHeartbeats 0 in
theorem TP.frame (hc : PySem.W.WalkO (view (OpenLaw.row PySem.Challenge.rw_tallyplans_k19_bytes_that_are_none).prog [70]) TP.loose (XL (view (OpenLaw.row PySem.Challenge.rw_tallyplans_k19_bytes_that_are_none).prog [70]) []) TP.hk.says (OpenLaw.row PySem.Challenge.rw_tallyplans_k19_bytes_that_are_none).toRowW (HandSHeadRun.topDef (OpenLaw.row PySem.Challenge.rw_tallyplans_k19_bytes_that_are_none).prog 70) [] fun f vs => PySem.call f vs) : PySem.Challenge.rw_tallyplans_k19_bytes_that_are_none.Holds := by
  w_on; o_law
  refine HandSHeadRun.head_any (r := OpenLaw.row PySem.Challenge.rw_tallyplans_k19_bytes_that_are_none) (q := view (OpenLaw.row PySem.Challenge.rw_tallyplans_k19_bytes_that_are_none).prog [70]) (H := TP.hk) (ob := TP.ob) (M := 16000) (loose := TP.loose) (d := HandSHeadRun.topDef (OpenLaw.row PySem.Challenge.rw_tallyplans_k19_bytes_that_are_none).prog 70) (kwd := []) TP.ob_eq
    (by kernel_rfl) (fun s => by kernel_rfl) TP.run (by kernel_rfl) (by kernel_rfl) (by kernel_rfl) (by rfl) (by first | assumption | decide +kernel) (by decide +kernel) ⟨rfl, rfl, rfl, rfl, rfl, by decide +kernel⟩ ?hw hc
  case hw => w_witness2
namespace TP
open PySem PySem.Spec PyProof.Rows L2
structure FnG (P : Program) (w : World) (K : PySem.W.Frag) (mg : Str → Option Value) (base : Heap) (CX : CXT) (k : Nat) (f : Addr) (fd : FuncData) (ps : List Str) (sp : Sp) : Prop where
  len : ∀ vs H Q E, sp vs H Q E → vs.length = ps.length
  run : ∀ (A : Around) (outer : List Env) (s : Shared) (H : Hp) (args : Args) (us : List Value) (vs : List V) (Q : VK) (E : XK), Room k A → A.guards = some [] →
    Env0 P w K mg base A outer s H → BindsTo s fd args (ps.zip us) → Vals vs us → sp vs H Q E → codeAny (model P w) A (.call (.ref f) args) (CR CX outer P w H s Q E) s
section
variable {P : Program} {w : World} {K : PySem.W.Frag} {mg : Str → Option Value} {base : Heap} {CX : CXT} {j k : Nat} {f : Addr} {fd : FuncData} {ps : List Str} {sp sp' : Sp}
theorem FnG.mono (F : FnG P w K mg base CX j f fd ps sp) (h : j ≤ k) : FnG P w K mg base CX k f fd ps sp :=
  ⟨F.len, fun A outer s H args us vs Q E hr hg => F.run A outer s H args us vs Q E (hr.mono h) hg⟩
theorem FnG.imp (F : FnG P w K mg base CX k f fd ps sp) (h : ∀ vs H Q E, sp' vs H Q E → sp vs H Q E) : FnG P w K mg base CX k f fd ps sp' :=
  ⟨fun vs H Q E q => F.len vs H Q E (h _ _ _ _ q), fun A outer s H args us vs Q E hr hg e b r q => F.run A outer s H args us vs Q E hr hg e b r (h _ _ _ _ q)⟩
end
theorem fnG_of {CX : CXT} {P : Program} {w : World} {K : PySem.W.Frag} {mg : Str → Option Value} {base : Heap} {k : Nat} {f : Addr} {x qual : Str} {params : Arguments} {body : List Stmt} {scope : Scope} {dvs : List V} {kws : List (Str × V)} {fd : FuncData} {N ps : List Str} {sp : Sp}
    (F : FunD K x qual params body scope dvs kws f fd) (S : FnScope N ps scope) (len : ∀ vs H Q E, sp vs H Q E → vs.length = ps.length)
    (hbody : ∀ (cdv : Value) (A : Around) (outer : List Env) (s : Shared) (H : Hp) (vs : List V) (Q : VK) (E : XK), Room k (A.deeper (envOfC qual scope s.heap.objs.size f cdv)) → (A.deeper (envOfC qual scope s.heap.objs.size f cdv)).guards = some [] → sp vs H Q E →
      ∃ t, PSs (cxOf CX P w K mg base N qual scope f cdv A outer s H E) body t ∧ t { nx := fun _ H' => Q .non H', rt := Q } (start N vs) H) :
    FnG P w K mg base CX (k + 1) f fd ps sp := by
  obtain ⟨oc, od, dV, kV, doc, pm, an, cdv, ct, osl, rfl, lk, hcd, _, _⟩ := F.ex
  refine ⟨len, fun A outer s H args us vs Q E hr hg e0 hb r hsp => ?_⟩
  have hl := len _ _ _ _ hsp
  have kx : K.In s.heap := e0.mod.kin.keeps fun b o e => (e0.bs b o e).1
  have nl : s.heap.NoLimit := e0.mod.nolimit.keeps fun b o e => (e0.bs b o e).1
  refine codeAny_call_function hr.depth (kx _ _ lk) rfl S.co S.gen rfl (PySem.W.codeRec_of kx hcd) (hb _ _ _ _ ?_)
  refine wpAny_newFunctionEnv_cells S.kind (fun ⟨n, v⟩ hy => by
    rcases S.par n (List.of_mem_zip hy).1 with q | q
    · exact .inl q
    · exact .inr ⟨q, PySem.W.cellsFrom_some _ _ _ (.inl q)⟩) fun env he s1 ic => ?_
  subst he
  refine ⟨nl.keeps ic.toInCall.keep, codeAny_func ?_⟩
  obtain ⟨t, ht, hq⟩ := hbody cdv A outer s H vs Q E (hr.deeper _) hg hsp
  have I0 := inv_start (CX := CX) (E := E) S hr.hd e0 hl r ic
  refine wpAny_mono (ht.run [] s1 (start N vs) H _ I0 hq) (fun fl s' hs => ?_) fun e s' hs => hs
  cases fl with
  | ret u =>
    obtain ⟨v, σ', H', J, rv, q⟩ := hs
    exact ⟨v, H', J.os, J.bare, J.base, J.hok, rv, q⟩
  | next =>
    obtain ⟨σ', H', J, q⟩ := hs
    exact ⟨.non, H', J.os, J.bare, J.base, J.hok, rfl, q⟩
  | brk =>
    obtain ⟨_, _, _, q⟩ := hs
    exact q.elim
  | cont =>
    obtain ⟨_, _, _, q⟩ := hs
    exact q.elim
structure Has (P : Program) (w : World) (K : PySem.W.Frag) (mg : Str → Option Value) (base : Heap) (CX : CXT) (k : Nat) (x : Str) (st : Stmt) (ps : List Str) (sp : Sp) : Prop where
  ex : ∃ fd, FunD K x x (defArgs st) (defBody st) (defScope st) [] [] (He.ga K x) fd ∧ FnG P w K mg base CX k (He.ga K x) fd ps sp
  glo : mg x = some (.ref (He.ga K x))
structure Dfd (K : PySem.W.Frag) (mg : Str → Option Value) (x : Str) (st : Stmt) : Prop where
  ex : ∃ fd, FunD K x x (defArgs st) (defBody st) (defScope st) [] [] (He.ga K x) fd
  glo : mg x = some (.ref (He.ga K x))
section
variable {P : Program} {w : World} {K : PySem.W.Frag} {mg : Str → Option Value} {base : Heap} {CX : CXT} {k j : Nat} {x : Str} {st : Stmt} {N ps : List Str} {sp sp' : Sp}
theorem Dfd.has (D : Dfd K mg x st) (S : FnScope N ps (defScope st)) (len : ∀ vs H Q E, sp vs H Q E → vs.length = ps.length)
    (hbody : ∀ (cdv : Value) (A : Around) (outer : List Env) (s : Shared) (H : Hp) (vs : List V) (Q : VK) (E : XK), Room k (A.deeper (envOfC x (defScope st) s.heap.objs.size (He.ga K x) cdv)) → (A.deeper (envOfC x (defScope st) s.heap.objs.size (He.ga K x) cdv)).guards = some [] → sp vs H Q E →
      ∃ t, PSs (cxOf CX P w K mg base N x (defScope st) (He.ga K x) cdv A outer s H E) (defBody st) t ∧ t { nx := fun _ H' => Q .non H', rt := Q } (start N vs) H) :
    Has P w K mg base CX (k + 1) x st ps sp := by
  obtain ⟨fd, F⟩ := D.ex
  exact ⟨⟨fd, F, fnG_of F S len hbody⟩, D.glo⟩
theorem Has.imp (h : Has P w K mg base CX k x st ps sp) (i : ∀ vs H Q E, sp' vs H Q E → sp vs H Q E) : Has P w K mg base CX k x st ps sp' := by
  obtain ⟨fd, F, G⟩ := h.ex
  exact ⟨⟨fd, F, G.imp i⟩, h.glo⟩
end
section
variable {X : Cx} {CX : CXT} {k : Nat} {f : Addr} {fd : FuncData} {ps ks : List Str} {sp : Sp} {E : XK} {x : Str} {st : Stmt} {p pos : Pos} {e : Expr} {es : List Expr} {kws : List Keyword} {t tk : TA}
theorem runG {pins : List (Addr × Obj)} {σ : L2.St} {H : Hp} {s : Shared} {Q : VK} {us : List Value} {args : Args} {vs : List V} (F : FnG X.prog X.w X.K X.mg X.base CX k f fd ps sp) (hr : Room k X.A) (hg : X.A.guards = some []) (hx : Passes CX X E)
    (I : Inv X pins σ H s) (r : Vals vs us) (hb : BindsTo s fd args (ps.zip us)) (h : sp vs H Q E) : wpAny (model X.prog X.w) X.A (call (.ref f) args.pos args.kw) (EP X pins σ Q) X.xe s := by
  refine wpAny_call (codeAny_mono (F.run X.A X.stack s H args us vs Q E hr hg I.env0 hb r h) fun z s' hq => ?_)
  cases z with
  | error e => exact hx pins σ H s e s' I hq
  | ok fl =>
    cases fl with
    | ret u => exact I.after hq
    | next => exact hq.elim
    | brk => exact hq.elim
    | cont => exact hq.elim
def KwB (x : Str) (st : Stmt) (ps : List Str) (n : Nat) (ks : List Str) (g : {α : Type} → List α → List α → List α) : Prop := ∀ (kV doc pm : Value) (an : Option Addr) (cdv ct : Value) (us ws : List Value), us.length = n → ws.length = ks.length →
  bindArgs (PySem.W.fnOf x x (defArgs st) (defBody st) (defScope st) .none kV doc pm an cdv ct) ⟨us, ks.zip ws⟩ = pure (ps.zip (g us ws))
theorem FunD.noDef {K : PySem.W.Frag} {q : Str} {params : Arguments} {body : List Stmt} {scope : Scope} {kvs : List (Str × V)} (F : FunD K x q params body scope [] kvs f fd) :
    ∃ (kV doc pm : Value) (an : Option Addr) (cdv ct : Value), fd = PySem.W.fnOf x q params body scope .none kV doc pm an cdv ct := by
  obtain ⟨oc, od, dV, kV, doc, pm, an, cdv, ct, osl, rfl, lk, hcd, hd, _⟩ := F.ex
  rcases hd with ⟨_, rfl⟩ | ⟨q, _⟩
  · exact ⟨kV, doc, pm, an, cdv, ct, rfl⟩
  · exact absurd rfl q
theorem pe_fn (F : Has X.prog X.w X.K X.mg X.base CX k x st ps sp) (hb : PosB x st ps) (hr : Room k X.A) (hg : X.A.guards = some []) (hgl : Gl X x) (hx : Passes CX X E)
    (ha : PA X (e :: es) t) (hdb : (x == ("__debug__" : Str)) = false := by decide) (he : starEach (e :: es) X.env = (false, eval e X.env) :: starEach es X.env := by rfl)
    (hpl : (backTo pos (starEach es X.env)).any (·.1) = false := by rfl) : PE X (.Call (.Name x p) (e :: es) [] pos) (tCall sp [] E t) := by
  obtain ⟨fd, FD, G⟩ := F.ex
  refine ⟨fun pins s σ H Q I h => ?_⟩
  refine wpAny_Call_Name_kw (ld_glob I hgl F.glo ?_ hdb)
  refine PySem.W.callWith_K (h₀ := X.base) I.ok.mod.kin FD.kp (thn (ha.run pos pins s σ H _ I h) fun us s1 ⟨vs, H1, I1, r, q⟩ => ⟨I1.kIn, ?_⟩) he hpl
  have q2 : sp vs H1 Q E := by rw [← List.append_nil vs]; exact q
  obtain ⟨kV, doc, pm, an, cdv, ct, rfl⟩ := FunD.noDef FD
  exact runG (args := ⟨us, []⟩) G hr hg hx I1 r (.of_eq (hb kV doc pm an cdv ct us (by rw [← r.length]; exact G.len _ _ _ _ q2))) q2
theorem pe_fn0 (F : Has X.prog X.w X.K X.mg X.base CX k x st ps sp) (hb : PosB x st ps) (hr : Room k X.A) (hg : X.A.guards = some []) (hgl : Gl X x) (hx : Passes CX X E)
    (hdb : (x == ("__debug__" : Str)) = false := by decide) : PE X (.Call (.Name x p) [] [] pos) (tCall sp [] E tNil) := by
  obtain ⟨fd, FD, G⟩ := F.ex
  refine ⟨fun pins s σ H Q I h => ?_⟩
  refine wpAny_Call_Name_kw (ld_glob I hgl F.glo ?_ hdb)
  have q2 : sp [] H Q E := h
  obtain ⟨kV, doc, pm, an, cdv, ct, rfl⟩ := FunD.noDef FD
  exact PySem.W.callWith_K0 I.kIn FD.kp (runG (args := ⟨[], []⟩) G hr hg hx I .nil (.of_eq (hb kV doc pm an cdv ct [] (G.len _ _ _ _ q2))) q2)
def tCallW (sp : Sp) (n m : Nat) (g : {α : Type} → List α → List α → List α) (E : XK) (t tk : TA) : TE := fun σ H Q => t σ H fun vs H1 => tk σ H1 fun zs H2 => vs.length = n ∧ zs.length = m ∧ sp (g vs zs) H2 Q E
theorem pe_fnK0 {g : {α : Type} → List α → List α → List α} (F : Has X.prog X.w X.K X.mg X.base CX k x st ps sp) (hb : KwB x st ps 0 ks g) (hgr : ∀ {vs zs : List V} {us ws : List Value}, Vals vs us → Vals zs ws → vs.length = 0 → zs.length = ks.length → Vals (g vs zs) (g us ws))
    (hr : Room k X.A) (hg : X.A.guards = some []) (hgl : Gl X x) (hx : Passes CX X E)
    (hkw : PK X kws tk) (hall : (backToKw pos (keywordEach kws X.env)).all (·.1.isSome) = true := by rfl) (hks : (backToKw pos (keywordEach kws X.env)).filterMap (·.1) = ks := by rfl)
    (hdb : (x == ("__debug__" : Str)) = false := by decide)
    (hpl : ((backTo pos (starEach [] X.env)).any (·.1) || (backToKw pos (keywordEach kws X.env)).any (·.1.isNone)) = false := by rfl) :
    PE X (.Call (.Name x p) [] kws pos) (tCallW sp 0 ks.length g E tNil tk) := by
  obtain ⟨fd, FD, G⟩ := F.ex
  refine ⟨fun pins s σ H Q I h => ?_⟩
  refine wpAny_Call_Name_kw (ld_glob I hgl F.glo ?_ hdb)
  refine PySem.W.callWith_KW0 (h₀ := X.base) I.ok.mod.kin FD.kp hall (thn (hkw.run pos pins s σ H _ I h) fun ws s2 ⟨zs, H2, I2, rz, l1, l2, q2⟩ => ⟨I2.kIn, ?_⟩) hpl
  rw [hks]
  obtain ⟨kV, doc, pm, an, cdv, ct, rfl⟩ := FunD.noDef FD
  exact runG (args := ⟨[], ks.zip ws⟩) (us := g [] ws) (vs := g [] zs) G hr hg hx I2 (hgr .nil rz rfl l2) (.of_eq (hb kV doc pm an cdv ct [] ws rfl (by rw [← rz.length]; exact l2))) q2
end
end TP
namespace TP
open PySem PySem.Spec PyProof.Rows L2
section
variable {H H' H1 : Hp} {p q : Addr} {o u : HO}
theorem hp_new (h : H p = some o) (hq : H q = none) : upd H q u p = some o := (upd_ne (ne_of_none h hq)).trans h
theorem hp_same (s : Same H H') (h : H p = some o) : H' p = some o := s p o h
theorem same_new (hq : H q = none) : Same H (upd H q u) := fun b o h => hp_new h hq
theorem same_step (s : Same H H') (hq : H' q = none) : Same H (upd H' q u) := s.trans (same_new hq)
theorem same_mut (s : Same H H') (hq : H q = none) : Same H (upd H' q u) := fun b o h => (upd_ne (ne_of_none h hq)).trans (s b o h)
theorem free_upd (h : upd H q u p = none) : H p = none := by
  by_cases e : p = q
  · subst e; rw [upd_same] at h; cases h
  · rw [upd_ne e] at h; exact h
theorem ne_fresh (h : H p = some o) (hq : H q = none) : p ≠ q := ne_of_none h hq
theorem szl {n : Nat} (h : n.ble 100000 = true) : n ≤ sizeLine := Nat.le_trans (Nat.le_of_ble_eq_true h) (by rw [sizeLine_eq]; decide)
theorem sz_le {n : Nat} (h : n ≤ 100000) : n ≤ sizeLine := Nat.le_trans h (by rw [sizeLine_eq]; decide)
theorem sz_lt {n : Nat} (h : n < 100000) : n < sizeLine := Nat.lt_of_lt_of_le h (by rw [sizeLine_eq]; decide)
end
def SameB (l : Addr) (H H' : Hp) : Prop := ∀ b o, b ≠ l → H b = some o → H' b = some o
theorem SameB.trans {l : Addr} {H H1 H2 : Hp} (a : SameB l H H1) (b : SameB l H1 H2) : SameB l H H2 := fun c o n h => b c o n (a c o n h)
theorem SameB.upd {l : Addr} {H : Hp} {u : HO} : SameB l H (upd H l u) := fun b o n h => (upd_ne n).trans h
theorem SameT.refl (H : Hp) : SameT H H := fun _ _ h _ _ => h
theorem SameT.dct {H : Hp} {l : Addr} {xs : List (Key × V)} {u : HO} (h : H l = some (.dK xs)) : SameT H (upd H l u) := fun a o e _ n => by
  by_cases z : a = l
  · subst z; rw [h] at e; cases e; exact absurd rfl (n xs)
  · exact (upd_ne z).trans e
theorem SameT.new {H : Hp} {l : Addr} {u : HO} (h : H l = none) : SameT H (upd H l u) := same_t (same_new h)
section
variable {K : PySem.W.Frag} {H : Hp}
theorem dps_len : ∀ {vs : List V} {ds : List PyData}, DpAll K H vs ds → vs.length = ds.length
  | _, _, .nil => rfl
  | _, _, .cons _ r => by rw [List.length_cons, List.length_cons, dps_len r]
theorem dps_get : ∀ {vs : List V} {ds : List PyData} {i : Nat} {v : V}, DpAll K H vs ds → vs[i]? = some v → ∃ d, ds[i]? = some d ∧ Dp K H v d
  | _, _, i, _, .nil, e => by simp at e
  | _, _, 0, _, .cons h _, e => by simp at e; subst e; exact ⟨_, rfl, h⟩
  | _, _, i + 1, v, .cons _ r, e => by
    obtain ⟨d, h1, h2⟩ := dps_get (i := i) r (by simpa using e)
    exact ⟨d, by simpa using h1, h2⟩
theorem dps_snoc : ∀ {vs : List V} {ds : List PyData} {v : V} {d : PyData}, DpAll K H vs ds → Dp K H v d → DpAll K H (vs ++ [v]) (ds ++ [d])
  | _, _, _, _, .nil, h => .cons h .nil
  | _, _, _, _, .cons a r, h => .cons a (dps_snoc r h)
theorem dps_take : ∀ {vs : List V} {ds : List PyData} (n : Nat), DpAll K H vs ds → DpAll K H (vs.take n) (ds.take n)
  | _, _, 0, _ => by simp; exact .nil
  | _, _, n + 1, .nil => by simp; exact .nil
  | _, _, n + 1, .cons h r => by simp; exact .cons h (dps_take n r)
theorem dps_drop : ∀ {vs : List V} {ds : List PyData} (n : Nat), DpAll K H vs ds → DpAll K H (vs.drop n) (ds.drop n)
  | _, _, 0, r => by simpa using r
  | _, _, n + 1, .nil => by simp; exact .nil
  | _, _, n + 1, .cons h r => by simp; exact dps_drop n r
theorem dp_int_inv {v : V} {i : Int} (h : Dp K H v (.int i)) : v = .int i := by cases h; rfl
theorem dp_str_inv {v : V} {x : Str} (h : Dp K H v (.str x)) : v = .str x := by cases h; rfl
theorem dp_tup_inv {v : V} {ds : List PyData} (h : Dp K H v (.tuple ds)) : ∃ a xs, v = .ref a ∧ SqT K H a xs ∧ DpAll K H xs ds := by cases h with | tup h r => exact ⟨_, _, rfl, h, r⟩
end
section
variable {σ : L2.St} {H : Hp} {Q : VK} {QB : Bool → Hp → Prop} {QA : List V → Hp → Prop} {QO : Option Int → Hp → Prop} {ta tb tc te : TE} {tt tu : TT} {tr : TA} {D : Ends} {s t u : TS} {g : TG} {gs : TGs} {r r' : R2} {v x y : V} {E : XK} {sp : Sp}
theorem w_var {i : Nat} (e : σ[i]? = some (some v)) (h : Q v H) : tVar i σ H Q := ⟨v, e, h⟩
theorem w_c (h : Q v H) : tC v σ H Q := h
instance i_w_c : StepX (tC v σ H Q) (Q v H) := ⟨fun h => w_c h⟩
theorem w_op (h : ta σ H fun x H1 => tb σ H1 fun y H2 => r x y H2 Q) : tOp r ta tb σ H Q := h
instance i_w_op : StepX (tOp r ta tb σ H Q) (ta σ H fun x H1 => tb σ H1 fun y H2 => r x y H2 Q) := ⟨fun h => w_op h⟩
theorem w_un {r : V → Hp → VK → Prop} (h : ta σ H fun x H1 => r x H1 Q) : tUn r ta σ H Q := h
instance i_w_un {r : V → Hp → VK → Prop} : StepX (tUn r ta σ H Q) (ta σ H fun x H1 => r x H1 Q) := ⟨fun h => w_un h⟩
theorem w_U {g : Int → V} {i : Int} (h : Q (g i) H) : rU g (.int i) H Q := ⟨i, rfl, h⟩
instance i_w_U {g : Int → V} {i : Int} : StepX (rU g (.int i) H Q) (Q (g i) H) := ⟨fun h => w_U h⟩
theorem w_I0 {g : Int → Int → V} {i j : Int} (h : Q (g i j) H) : rI0 g (.int i) (.int j) H Q := ⟨i, j, rfl, rfl, h⟩
instance i_w_I0 {g : Int → Int → V} {i j : Int} : StepX (rI0 g (.int i) (.int j) H Q) (Q (g i j) H) := ⟨fun h => w_I0 h⟩
theorem w_I {C : Int → Int → Prop} {g : Int → Int → V} {i j : Int} (c : C i j) (h : Q (g i j) H) : rI C g (.int i) (.int j) H Q := ⟨i, j, rfl, rfl, c, h⟩
theorem w_eqI {i j : Int} (h : Q (.bl (decide (i = j))) H) : rEq (.int i) (.int j) H Q := by
  refine ⟨rfl, ?_⟩
  have e : decide (V.int i = V.int j) = decide (i = j) := by
    by_cases z : i = j
    · subst z; simp
    · rw [decide_eq_false z, decide_eq_false fun q => z (V.int.inj q)]
  rw [e]; exact h
instance i_w_eqI {i j : Int} : StepX (rEq (.int i) (.int j) H Q) (Q (.bl (decide (i = j))) H) := ⟨fun h => w_eqI h⟩
theorem w_neI {i j : Int} (h : Q (.bl (!decide (i = j))) H) : rNe (.int i) (.int j) H Q := by
  refine ⟨rfl, ?_⟩
  have e : decide (V.int i = V.int j) = decide (i = j) := by
    by_cases z : i = j
    · subst z; simp
    · rw [decide_eq_false z, decide_eq_false fun q => z (V.int.inj q)]
  rw [e]; exact h
instance i_w_neI {i j : Int} : StepX (rNe (.int i) (.int j) H Q) (Q (.bl (!decide (i = j))) H) := ⟨fun h => w_neI h⟩
theorem w_eqS {i j : Str} (h : Q (.bl (decide (i = j))) H) : rEq (.str i) (.str j) H Q := by
  refine ⟨rfl, ?_⟩
  have e : decide (V.str i = V.str j) = decide (i = j) := by
    by_cases z : i = j
    · subst z; simp
    · rw [decide_eq_false z, decide_eq_false fun q => z (V.str.inj q)]
  rw [e]; exact h
instance i_w_eqS {i j : Str} : StepX (rEq (.str i) (.str j) H Q) (Q (.bl (decide (i = j))) H) := ⟨fun h => w_eqS h⟩
theorem w_neS {i j : Str} (h : Q (.bl (!decide (i = j))) H) : rNe (.str i) (.str j) H Q := by
  refine ⟨rfl, ?_⟩
  have e : decide (V.str i = V.str j) = decide (i = j) := by
    by_cases z : i = j
    · subst z; simp
    · rw [decide_eq_false z, decide_eq_false fun q => z (V.str.inj q)]
  rw [e]; exact h
instance i_w_neS {i j : Str} : StepX (rNe (.str i) (.str j) H Q) (Q (.bl (!decide (i = j))) H) := ⟨fun h => w_neS h⟩
theorem w_isB {a b : Bool} (h : Q (.bl (decide (a = b))) H) : rIsB (.bl a) (.bl b) H Q := ⟨a, b, rfl, rfl, h⟩
instance i_w_isB {a b : Bool} : StepX (rIsB (.bl a) (.bl b) H Q) (Q (.bl (decide (a = b))) H) := ⟨fun h => w_isB h⟩
theorem w_notB {a b : Bool} (h : Q (.bl (!decide (a = b))) H) : rNotB (.bl a) (.bl b) H Q := ⟨a, b, rfl, rfl, h⟩
instance i_w_notB {a b : Bool} : StepX (rNotB (.bl a) (.bl b) H Q) (Q (.bl (!decide (a = b))) H) := ⟨fun h => w_notB h⟩
theorem w_call (h : tr σ H fun vs H1 => sp vs H1 Q E) : tCall sp [] E tr σ H Q := by
  have e : (fun (vs : List V) (H1 : Hp) => sp (vs ++ []) H1 Q E) = fun vs H1 => sp vs H1 Q E := by funext vs H1; rw [List.append_nil]
  show tr σ H fun vs H1 => sp (vs ++ []) H1 Q E
  rw [e]; exact h
instance i_w_call : StepX (tCall sp [] E tr σ H Q) (tr σ H fun vs H1 => sp vs H1 Q E) := ⟨fun h => w_call h⟩
theorem w_CB {r : List V → Hp → VK → Prop} (h : tr σ H fun vs H1 => r vs H1 Q) : tCB r tr σ H Q := h
instance i_w_CB {r : List V → Hp → VK → Prop} : StepX (tCB r tr σ H Q) (tr σ H fun vs H1 => r vs H1 Q) := ⟨fun h => w_CB h⟩
theorem w_nil (h : QA [] H) : tNil σ H QA := h
instance i_w_nil : StepX (tNil σ H QA) (QA [] H) := ⟨fun h => w_nil h⟩
theorem w_cons (h : ta σ H fun x H1 => tr σ H1 fun xs H2 => QA (x :: xs) H2) : tCons ta tr σ H QA := h
instance i_w_cons : StepX (tCons ta tr σ H QA) (ta σ H fun x H1 => tr σ H1 fun xs H2 => QA (x :: xs) H2) := ⟨fun h => w_cons h⟩
def AllocT (xs : List V) (H : Hp) (Q : VK) : Prop := xs.length ≤ sizeLine ∧ ∀ p, H p = none → Q (.ref p) (upd H p (.tup xs))
def AllocL (xs : List V) (H : Hp) (Q : VK) : Prop := xs.length ≤ sizeLine ∧ ∀ p, H p = none → Q (.ref p) (upd H p (.lst xs))
theorem w_tup (h : tr σ H fun xs H1 => AllocT xs H1 Q) : tTup tr σ H Q := h
instance i_w_tup : StepX (tTup tr σ H Q) (tr σ H fun xs H1 => AllocT xs H1 Q) := ⟨fun h => w_tup h⟩
theorem w_lst (h : tr σ H fun xs H1 => AllocL xs H1 Q) : tLst tr σ H Q := h
instance i_w_lst : StepX (tLst tr σ H Q) (tr σ H fun xs H1 => AllocL xs H1 Q) := ⟨fun h => w_lst h⟩
theorem w_allocT {xs : List V} (l : xs.length.ble 100000 = true) (h : ∀ p, H p = none → Q (.ref p) (upd H p (.tup xs))) : AllocT xs H Q := ⟨szl l, h⟩
theorem w_allocL {xs : List V} (l : xs.length.ble 100000 = true) (h : ∀ p, H p = none → Q (.ref p) (upd H p (.lst xs))) : AllocL xs H Q := ⟨szl l, h⟩
def BlC (H : Hp) (v : V) (k : Bool → Prop) : Prop := ∃ c, v = .bl c ∧ k c
theorem w_bl {c : Bool} {k : Bool → Prop} (h : k c) : BlC H (.bl c) k := ⟨c, rfl, h⟩
instance i_w_bl {c : Bool} {k : Bool → Prop} : StepX (BlC H (.bl c) k) (k c) := ⟨fun h => w_bl h⟩
theorem w_andV (h : ta σ H fun x H1 => BlC H1 x fun c => if c = true then tb σ H1 Q else Q (.bl false) H1) : tAndV ta tb σ H Q := h
instance i_w_andV : StepX (tAndV ta tb σ H Q) (ta σ H fun x H1 => BlC H1 x fun c => if c = true then tb σ H1 Q else Q (.bl false) H1) := ⟨fun h => w_andV h⟩
theorem w_orV (h : ta σ H fun x H1 => BlC H1 x fun c => if c = true then Q (.bl true) H1 else tb σ H1 Q) : tOrV ta tb σ H Q := h
instance i_w_orV : StepX (tOrV ta tb σ H Q) (ta σ H fun x H1 => BlC H1 x fun c => if c = true then Q (.bl true) H1 else tb σ H1 Q) := ⟨fun h => w_orV h⟩
theorem w_notV (h : ta σ H fun x H1 => BlC H1 x fun c => Q (.bl (!c)) H1) : tNotV ta σ H Q := h
instance i_w_notV : StepX (tNotV ta σ H Q) (ta σ H fun x H1 => BlC H1 x fun c => Q (.bl (!c)) H1) := ⟨fun h => w_notV h⟩
theorem w_if (h : tt σ H fun c H1 => if c = true then ta σ H1 Q else tb σ H1 Q) : tIf tt ta tb σ H Q := h
instance i_w_if : StepX (tIf tt ta tb σ H Q) (tt σ H fun c H1 => if c = true then ta σ H1 Q else tb σ H1 Q) := ⟨fun h => w_if h⟩
theorem w_test (h : te σ H fun x H1 => BlC H1 x fun c => QB c H1) : tTest te σ H QB := h
instance i_w_test : StepX (tTest te σ H QB) (te σ H fun x H1 => BlC H1 x fun c => QB c H1) := ⟨fun h => w_test h⟩
theorem w_B (h : te σ H fun x H1 => BlC H1 x fun c => QB c H1) : tB te σ H QB := h
instance i_w_B : StepX (tB te σ H QB) (te σ H fun x H1 => BlC H1 x fun c => QB c H1) := ⟨fun h => w_B h⟩
theorem w_and (h : tt σ H fun c H1 => if c = true then tu σ H1 QB else QB false H1) : tAnd tt tu σ H QB := h
instance i_w_and : StepX (tAnd tt tu σ H QB) (tt σ H fun c H1 => if c = true then tu σ H1 QB else QB false H1) := ⟨fun h => w_and h⟩
theorem w_or (h : tt σ H fun c H1 => if c = true then QB true H1 else tu σ H1 QB) : tOr tt tu σ H QB := h
instance i_w_or : StepX (tOr tt tu σ H QB) (tt σ H fun c H1 => if c = true then QB true H1 else tu σ H1 QB) := ⟨fun h => w_or h⟩
theorem w_not (h : tt σ H fun c H1 => QB (!c) H1) : tNot tt σ H QB := h
instance i_w_not : StepX (tNot tt σ H QB) (tt σ H fun c H1 => QB (!c) H1) := ⟨fun h => w_not h⟩
theorem w_chain (h : ta σ H fun x H1 => tb σ H1 fun y H2 => r x y H2 fun z H3 => BlC H3 z fun k => if k = true then tc σ H3 fun w' H4 => r' y w' H4 Q else Q (.bl false) H3) : tChain r r' ta tb tc σ H Q := h
instance i_w_chain : StepX (tChain r r' ta tb tc σ H Q) (ta σ H fun x H1 => tb σ H1 fun y H2 => r x y H2 fun z H3 => BlC H3 z fun k => if k = true then tc σ H3 fun w' H4 => r' y w' H4 Q else Q (.bl false) H3) := ⟨fun h => w_chain h⟩
theorem w_seq (h : t { D with nx := u D } σ H) : tSeq t u D σ H := h
theorem w_next (h : D.nx σ H) : tNext D σ H := h
instance i_w_next : StepX (tNext D σ H) (D.nx σ H) := ⟨fun h => w_next h⟩
theorem w_asg (h : te σ H fun x H1 => g x σ H1 D.nx) : tAsg te g D σ H := h
instance i_w_asg : StepX (tAsg te g D σ H) (te σ H fun x H1 => g x σ H1 D.nx) := ⟨fun h => w_asg h⟩
theorem w_gname {i : Nat} {QS : L2.St → Hp → Prop} (h : QS (σ.set i (some v)) H) : gName i v σ H QS := h
theorem w_gtup {K : PySem.W.Frag} {n : Nat} {a : Addr} {xs : List V} {QS : L2.St → Hp → Prop} (hs : SqT K H a xs) (hn : xs.length = n) (h : gs xs σ H QS) : gTup K n gs (.ref a) σ H QS := ⟨a, xs, rfl, hs, hn, h⟩
theorem w_gcons {xs : List V} {QS : L2.St → Hp → Prop} (h : g x σ H fun σ' H' => gs xs σ' H' QS) : gCons g gs (x :: xs) σ H QS := ⟨x, xs, rfl, h⟩
instance i_w_gcons {xs : List V} {QS : L2.St → Hp → Prop} : StepX (gCons g gs (x :: xs) σ H QS) (g x σ H fun σ' H' => gs xs σ' H' QS) := ⟨fun h => w_gcons h⟩
theorem w_gnil {QS : L2.St → Hp → Prop} (h : QS σ H) : gNil [] σ H QS := ⟨rfl, h⟩
instance i_w_gnil {QS : L2.St → Hp → Prop} : StepX (gNil [] σ H QS) (QS σ H) := ⟨fun h => w_gnil h⟩
theorem w_gsub {to ti : TE} {ts : TSet} {QS : L2.St → Hp → Prop} (h : to σ H fun o H1 => ti σ H1 fun i H2 => ts o i v H2 fun H3 => QS σ H3) : gSub to ti ts v σ H QS := h
instance i_w_gsub {to ti : TE} {ts : TSet} {QS : L2.St → Hp → Prop} : StepX (gSub to ti ts v σ H QS) (to σ H fun o H1 => ti σ H1 fun i H2 => ts o i v H2 fun H3 => QS σ H3) := ⟨fun h => w_gsub h⟩
theorem w_setL {p : Addr} {xs : List V} {i : Int} {j : Nat} {QH : Hp → Prop} (hp : H p = some (.lst xs)) (hj : ixN xs.length i = some j) (h : QH (upd H p (.lst (xs.set j v)))) : rSetL (.ref p) (.int i) v H QH := ⟨p, xs, i, j, rfl, rfl, hp, hj, h⟩
theorem w_ret (h : te σ H D.rt) : tRet te D σ H := h
instance i_w_ret : StepX (tRet te D σ H) (te σ H D.rt) := ⟨fun h => w_ret h⟩
theorem w_retN (h : D.rt .non H) : tRetN D σ H := h
instance i_w_retN : StepX (tRetN D σ H) (D.rt .non H) := ⟨fun h => w_retN h⟩
theorem w_ifS {c : TT} (h : c σ H fun b H1 => if b = true then t D σ H1 else u D σ H1) : tIfS c t u D σ H := h
instance i_w_ifS {c : TT} : StepX (tIfS c t u D σ H) (c σ H fun b H1 => if b = true then t D σ H1 else u D σ H1) := ⟨fun h => w_ifS h⟩
theorem w_drop (h : te σ H fun _ H1 => D.nx σ H1) : tDrop te D σ H := h
instance i_w_drop : StepX (tDrop te D σ H) (te σ H fun _ H1 => D.nx σ H1) := ⟨fun h => w_drop h⟩
theorem w_aug {i : Nat} {ti : TIp} (e : σ[i]? = some (some v)) (h : te σ H fun y H1 => ti v y H1 fun z H2 => D.nx (σ.set i (some z)) H2) : tAug i te ti D σ H := ⟨v, e, h⟩
theorem w_ipI {f : Int → Int → Int} {i j : Int} (h : Q (.int (f i j)) H) : ipI f (.int i) (.int j) H Q := ⟨i, j, rfl, rfl, h⟩
instance i_w_ipI {f : Int → Int → Int} {i j : Int} : StepX (ipI f (.int i) (.int j) H Q) (Q (.int (f i j)) H) := ⟨fun h => w_ipI h⟩
theorem w_break (h : D.bk σ H) : tBreak D σ H := h
instance i_w_break : StepX (tBreak D σ H) (D.bk σ H) := ⟨fun h => w_break h⟩
theorem w_cont (h : D.ct σ H) : tCont D σ H := h
instance i_w_cont : StepX (tCont D σ H) (D.ct σ H) := ⟨fun h => w_cont h⟩
theorem w_nx {n : L2.St → Hp → Prop} {r : VK} {b c : L2.St → Hp → Prop} (h : n σ H) : Ends.nx ⟨n, r, b, c⟩ σ H := h
theorem w_rt {n : L2.St → Hp → Prop} {r : VK} {b c : L2.St → Hp → Prop} (h : r v H) : Ends.rt ⟨n, r, b, c⟩ v H := h
theorem w_bk {n : L2.St → Hp → Prop} {r : VK} {b c : L2.St → Hp → Prop} (h : b σ H) : Ends.bk ⟨n, r, b, c⟩ σ H := h
theorem w_ct {n : L2.St → Hp → Prop} {r : VK} {b c : L2.St → Hp → Prop} (h : c σ H) : Ends.ct ⟨n, r, b, c⟩ σ H := h
theorem w_iteT {A B : Prop} (h : A) : if true = true then A else B := by rw [if_pos rfl]; exact h
instance i_w_iteT {A B : Prop} : StepX (if true = true then A else B) (A) := ⟨fun h => w_iteT h⟩
theorem w_iteF {A B : Prop} (h : B) : if false = true then A else B := by rw [if_neg Bool.false_ne_true]; exact h
instance i_w_iteF {A B : Prop} : StepX (if false = true then A else B) (B) := ⟨fun h => w_iteF h⟩
theorem w_ited {c A B : Prop} [Decidable c] (h1 : c → A) (h2 : ¬ c → B) : if decide c = true then A else B := by
  by_cases h : c
  · rw [if_pos (decide_eq_true h)]; exact h1 h
  · rw [if_neg (by rw [decide_eq_false h]; exact Bool.false_ne_true)]; exact h2 h
theorem w_iten {c A B : Prop} [Decidable c] (h1 : ¬ c → A) (h2 : c → B) : if (!decide c) = true then A else B := by
  by_cases h : c
  · rw [if_neg (by rw [decide_eq_true h]; exact Bool.false_ne_true)]; exact h2 h
  · rw [if_pos (by rw [decide_eq_false h]; rfl)]; exact h1 h
theorem w_iteb {b : Bool} {A B : Prop} (h1 : b = true → A) (h2 : b = false → B) : if b = true then A else B := by
  cases b
  · exact w_iteF (h2 rfl)
  · exact w_iteT (h1 rfl)
theorem w_itenb {b : Bool} {A B : Prop} (h1 : b = false → A) (h2 : b = true → B) : if (!b) = true then A else B := by
  cases b
  · exact w_iteT (h1 rfl)
  · exact w_iteF (h2 rfl)
theorem w_nott {A B : Prop} (h : B) : if (!true) = true then A else B := w_iteF h
instance i_w_nott {A B : Prop} : StepX (if (!true) = true then A else B) (B) := ⟨fun h => w_nott h⟩
theorem w_notf {A B : Prop} (h : A) : if (!false) = true then A else B := w_iteT h
instance i_w_notf {A B : Prop} : StepX (if (!false) = true then A else B) (A) := ⟨fun h => w_notf h⟩
theorem w_BM {K : PySem.W.Frag} {T : String} {r : V → List V → Hp → VK → Prop} (h : te σ H fun x H1 => tyV K T x H1 ∧ tr σ H1 fun xs H2 => r x xs H2 Q) : tBM K T r te tr σ H Q := h
instance i_w_BM {K : PySem.W.Frag} {T : String} {r : V → List V → Hp → VK → Prop} : StepX (tBM K T r te tr σ H Q) (te σ H fun x H1 => tyV K T x H1 ∧ tr σ H1 fun xs H2 => r x xs H2 Q) := ⟨fun h => w_BM h⟩
theorem w_BM0 {K : PySem.W.Frag} {T : String} {r : V → List V → Hp → VK → Prop} (h : te σ H fun x H1 => tyV K T x H1 ∧ r x [] H1 Q) : tBM0 K T r te σ H Q := h
instance i_w_BM0 {K : PySem.W.Frag} {T : String} {r : V → List V → Hp → VK → Prop} : StepX (tBM0 K T r te σ H Q) (te σ H fun x H1 => tyV K T x H1 ∧ r x [] H1 Q) := ⟨fun h => w_BM0 h⟩
theorem w_sl {r : V → Option Int → Option Int → Hp → VK → Prop} {tl th : TO} (h : te σ H fun x H1 => tl σ H1 fun l H2 => th σ H2 fun u H3 => r x l u H3 Q) : tSl r te tl th σ H Q := h
instance i_w_sl {r : V → Option Int → Option Int → Hp → VK → Prop} {tl th : TO} : StepX (tSl r te tl th σ H Q) (te σ H fun x H1 => tl σ H1 fun l H2 => th σ H2 fun u H3 => r x l u H3 Q) := ⟨fun h => w_sl h⟩
theorem w_nopart (h : QO none H) : tNoPart σ H QO := h
instance i_w_nopart : StepX (tNoPart σ H QO) (QO none H) := ⟨fun h => w_nopart h⟩
theorem w_ixL {K : PySem.W.Frag} {p : Addr} {xs : List V} {i : Int} (hs : SqL K H p xs) (ha : atI xs i = some v) (h : Q v H) : rIxL K (.ref p) (.int i) H Q := ⟨p, xs, i, v, rfl, rfl, hs, ha, h⟩
theorem w_ixT {K : PySem.W.Frag} {p : Addr} {xs : List V} {i : Int} (hs : SqT K H p xs) (ha : atI xs i = some v) (h : Q v H) : rIxT K (.ref p) (.int i) H Q := ⟨p, xs, i, v, rfl, rfl, hs, ha, h⟩
theorem w_dnewK (h : ∀ p, H p = none → Q (.ref p) (upd H p (.dK []))) : tDNewK σ H Q := h
end
end TP
namespace PySem
open Sem (wp)
theorem tp_enum_new {v : Value} {o : Obj} {H : Heap → Prop} (B : Begins v o H) :
    Meets (Builtin.«enumerate.__new__» ⟨[.type "enumerate", v], []⟩) (fun _ R s => H s.heap ∧
      R (.ok (.ret (.ref (s.heap.push o).objs.size))) { s with heap := (s.heap.push o).push { cls := .type "enumerate", data := .fields #[.none, .bool false, .ref s.heap.objs.size, rawInt 0, .none, .none] } }) :=
  .of_wp fun prog w A R s h => by
    obtain ⟨hp, g, d, tk, os⟩ := s; obtain ⟨h1, h⟩ := h
    have hsub := sub_enumerate
    have q1 : ∀ {A' : Around} {E : Value → Shared → Prop} {Q : Value → Shared → Prop}, Q (.ref hp.objs.size) ⟨hp.push o, g, d, tk, os⟩ → wpAny (model prog w) A' (pyIter v) Q E ⟨hp, g, d, tk, os⟩ :=
      fun q => B.iter prog w _ _ ⟨hp, g, d, tk, os⟩ _ h1 q
    wp_walk using q1
    refine wpAny_stack_any fun st => wpAny_pure ?_
    split
    · rename_i c _ _ _ _ _
      cases (c == Value.type "enumerate") <;> (wp_walk using q1; exact ⟨_, rfl, h⟩)
    · wp_walk using q1
      exact ⟨_, rfl, h⟩
theorem tp_enum_begins {prog : Program} {w : World} {A : Around} {E : Value → Shared → Prop} {s : Shared} {v : Value} {o : Obj} {H : Heap → Prop} {Q : Value → Shared → Prop} (B : Begins v o H) (h1 : H s.heap)
    (h : ∀ h', IsEnum h' (s.heap.objs.size + 1) s.heap.objs.size 0 .none → h'.get? s.heap.objs.size = some o → h'.objs.size = s.heap.objs.size + 2 →
      (∀ b o, s.heap.get? b = some o → h'.get? b = some o) → Q (.ref (s.heap.objs.size + 1)) { s with heap := h' }) :
    wpAny (model prog w) A (call (.type "enumerate") [v]) Q E s := by
  refine callType_new F.called_enumerate (by decide) (F.typeCall_enumerate_1 _) (F.newCall_enumerate_1 _) (fun obj => F.args_object_init_2 obj _) F.entry_enumerate_new (tp_enum_new B) ⟨h1, ?_⟩
  have hz : (s.heap.push o).objs.size = s.heap.objs.size + 1 := Heap.size_push ..
  show _ ∧ _
  rw [hz]
  have he : IsEnum ((s.heap.push o).push { cls := .type "enumerate", data := .fields #[.none, .bool false, .ref s.heap.objs.size, rawInt 0, .none, .none] }) (s.heap.objs.size + 1) s.heap.objs.size 0 .none := by
    have q := Heap.get?_push_size (s.heap.push o) (o := { cls := .type "enumerate", data := .fields #[.none, .bool false, .ref s.heap.objs.size, rawInt 0, .none, .none] }) rfl
    rw [hz] at q; exact q
  exact ⟨⟨_, he, rfl⟩, h _ he (Heap.get?_push_of_some _ (Heap.get?_push_size _ B.free)) (by rw [Heap.size_push, hz]) fun b o x => Heap.get?_push_of_some _ (Heap.get?_push_of_some _ x)⟩
end PySem
namespace TP
open PySem PySem.Spec PyProof.Rows L2
def IteT (K : PySem.W.Frag) (a : Addr) : It :=
  ⟨fun i H => ∃ xs x, SqT K H a xs ∧ xs[i]? = some x, fun i H v H' => ∃ T x, v = .ref T ∧ H T = none ∧ H' = upd H T (.tup [.int (i : Nat), x]) ∧ ∀ xs, SqT K H a xs → xs[i]? = some x, fun i H => ∃ xs, SqT K H a xs ∧ xs.length = i⟩
theorem istuple_of {h : Heap} {a : Addr} {items : Array Value} (p : IsTup h a items) : h.IsTuple a items := by
  obtain ⟨o, ho, hc, n, hd⟩ := p
  exact ⟨o, ho, hc, n, hd⟩
theorem turn_enumT {P : Program} {w : World} {K : PySem.W.Frag} {elts : List Expr} {kk : Nat} {tpos : Pos} (a e it : Addr) :
    Turn P w K (.Tuple elts kk tpos) (IteT K a) [e, it] e (fun i h => (∃ old, IsEnum h e it ((i : Nat) : Int) old) ∧ h.IsTupleIter it a i ∧ e ≠ it) where
  mem := by simp
  obj := fun i h st b hb => by
    obtain ⟨⟨old, he⟩, ⟨o, ho, hc, hd⟩, _⟩ := st
    rcases (show b = e ∨ b = it by simpa using hb) with z | z
    · rw [z]; exact ⟨_, he, fun v q => nomatch q⟩
    · rw [z]; exact ⟨o, ho, fun v q => by rw [hd] at q; cases q⟩
  keep := fun i h h' st k => let ⟨⟨old, he⟩, hi, hne⟩ := st; ⟨⟨old, k e (by simp) _ he⟩, hi.at fun o q => k it (by simp) o q, hne⟩
  item := by
    intro X hP hw hK hc i pins s σ H E I hf st hg
    subst hP hw hK
    obtain ⟨⟨old, he⟩, hit, hne⟩ := st
    obtain ⟨xs, x, hq, hx⟩ := hg
    obtain ⟨its, rv, p, hz⟩ := I.tuple hq
    obtain ⟨u, hu, ru⟩ := rv.get hx
    have hel : e < s.heap.objs.size := Heap.lt_size he
    have hil : it < s.heap.objs.size := by obtain ⟨_, q, _⟩ := hit; exact Heap.lt_size q
    have hta := istuple_of p
    have nai : a ≠ it := fun z => by
      subst z
      obtain ⟨o1, h1, c1, _⟩ := hit
      obtain ⟨o2, h2, c2, _⟩ := hta
      rw [h1] at h2; cases h2
      rw [c1] at c2
      exact absurd (Value.type.inj c2) (by decide)
    have nae : a ≠ e := fun z => by
      subst z
      obtain ⟨o2, h2, c2, _⟩ := hta
      have h1 : s.heap.get? a = some _ := he
      rw [h1] at h2; cases h2
      exact absurd (Value.type.inj c2) (by decide)
    have D := Draws.tuple (prog := X.prog) (w := X.w) (A := X.A.in1) (by have := I.ok.hd hc; exact this) it a nai its.toArray
    have hlt : i < its.toArray.size := by
      obtain ⟨hh, _⟩ := List.getElem?_eq_some_iff.mp hu
      simpa using hh
    refine wpAny_pyNext_enum_itemD D he ⟨hit, hta⟩ hlt hne (by simp [Ne.symm nae, hne]) fun x' h' tk hx' ho hst' hT hsz hk => ?_
    have ex : x' = u := by
      have : its.toArray[i]? = some x' := hx'
      have q : its[i]? = some x' := by simpa using this
      rw [hu] at q; cases q; rfl
    subst ex
    refine ⟨_, rfl, wpAny_letOwnedTupleGo_enum (s := { s with heap := h', toks := tk + 1 }) ho fun h'' he' sb => ?_⟩
    have hT2 : h''.get? s.heap.objs.size = some { cls := .type "tuple", data := .seq #[.int i tk, x'] } := (sb.2 _ (Nat.ne_of_gt hel)).trans hT
    have new : ObjOk X.prog X.w (upd H s.heap.objs.size (.tup [.int (i : Nat), x])) h'' s.heap.objs.size (.tup [.int (i : Nat), x]) :=
      ⟨by show 2 ≤ sizeLine; decide, [.int i tk, x'], .cons ⟨_, rfl⟩ (.cons ru .nil), ⟨_, hT2, rfl, _, rfl⟩⟩
    have I1 : Inv X pins σ (upd H s.heap.objs.size (.tup [.int (i : Nat), x])) { s with heap := h'', toks := tk + 1 } :=
      I.turnedNew (ch := [e, it]) (fun b ob hb q => (sb.2 b (fun z => hb (by simp [z]))).trans (hk b ob (fun z => hb (by simp [z])) (fun z => hb (by simp [z])) q)) hf (Nat.le_refl _) new
    refine ⟨.ref s.heap.objs.size, _, I1, rfl, ⟨_, x, rfl, I.hok.fresh (Nat.le_refl _), rfl, fun ys hy => by rw [I.tuple_inj hy hq]; exact hx⟩, ⟨⟨x', ?_⟩, hst'.1.at fun o q => (sb.2 it (Ne.symm hne)).trans q, hne⟩, fun b hb => ?_⟩
    · have e1 : ((i + 1 : Nat) : Int) = (i : Int) + 1 := by omega
      rw [e1]; exact he'
    · have hb' : b < s.heap.objs.size := by
        rcases (show b = e ∨ b = it by simpa using hb) with z | z
        · rw [z]; exact hel
        · rw [z]; exact hil
      rw [upd_ne (Nat.ne_of_lt hb')]
      exact (hf b hb).1
  done := by
    intro X hP hw hK hc i pins s σ H E I hf st hg
    subst hP hw hK
    obtain ⟨⟨old, he⟩, hit, hne⟩ := st
    obtain ⟨xs, hq, hx⟩ := hg
    obtain ⟨its, rv, p, hz⟩ := I.tuple hq
    obtain ⟨f0, f1, f2, f3, f4, f5⟩ := hf it (by simp)
    have hl := rv.length
    have hta := istuple_of p
    have nai : a ≠ it := fun z => by
      subst z
      obtain ⟨o1, h1, c1, _⟩ := hit
      obtain ⟨o2, h2, c2, _⟩ := hta
      rw [h1] at h2; cases h2
      rw [c1] at c2
      exact absurd (Value.type.inj c2) (by decide)
    have D := Draws.tuple (prog := X.prog) (w := X.w) (A := X.A.in1) (by have := I.ok.hd hc; exact this) it a nai its.toArray
    have hi : i = its.toArray.size := by simp; omega
    exact wpAny_pyNext_enum_endD D he ⟨by rw [← hi]; exact hit, hta⟩ fun h' eb => ⟨rfl, I.turned (t' := s.toks) (fun b o hb q => eb b o hb q) f0 f1 f3 f4 f5⟩
  self := fun A i s Q E st h => let ⟨⟨_, he⟩, _⟩ := st; wpAny_pyIter_enum he h
def iEnumT (K : PySem.W.Frag) (ta : TA) : TI := fun σ H R => ta σ H fun vs H1 => ∃ a xs, vs = [.ref a] ∧ SqT K H1 a xs ∧ R (IteT K a) H1
theorem pi_enumT {X : Cx} {e : Expr} {ta : TA} {p pos tpos : Pos} {elts : List Expr} {kk : Nat} (hg : Gl X "enumerate") (hm : X.mg "enumerate" = none) (ha : PA X [e] ta) (hs : starEach [e] X.env = [(false, eval e X.env)] := by rfl) :
    PI X (.Tuple elts kk tpos) (.Call (.Name "enumerate" p) [e] [] pos) (iEnumT X.K ta) := by
  refine ⟨fun pins s σ H R I h => ?_⟩
  refine Call_ (ld_blt I hg hm boot_enumerate (PyProof.Rows.callWith_type1 (thn (ha.run pos pins s σ H _ I h) fun us s1 ⟨vs, H1, I1, r1, q1⟩ => ?_) hs rfl))
  obtain ⟨a, xs, ex, hq, q⟩ := q1
  subst ex
  obtain ⟨u, rfl, ru⟩ := vals1 r1
  have eu : u = .ref a := ru
  subst eu
  obtain ⟨its, rv, p', hz⟩ := I1.tuple hq
  refine tp_enum_begins (begins_tuple a its.toArray) (istuple_of p') fun h' he hit hsz hk => wpAny_pyIter_enum he ?_
  have I2 : Inv X pins σ H1 { s1 with heap := h' } := I1.kept (t' := s1.toks) hk
  refine ⟨s1.heap.objs.size + 1, [s1.heap.objs.size + 1, s1.heap.objs.size], _, _, H1, rfl, I2, turn_enumT a (s1.heap.objs.size + 1) s1.heap.objs.size, ⟨⟨.none, he⟩, ⟨_, hit, rfl, rfl⟩, Nat.succ_ne_self _⟩, fun b hb => ?_, q⟩
  have hle : s1.heap.objs.size ≤ b := by
    rcases (show b = s1.heap.objs.size + 1 ∨ b = s1.heap.objs.size by simpa using hb) with z | z
    · rw [z]; exact Nat.le_add_right _ _
    · rw [z]; exact Nat.le_refl _
  exact I1.fpOk hle (I1.hok.fresh hle)
theorem walk_enumT {K : PySem.W.Frag} {a : Addr} {xs : List V} : Walk (IteT K a) xs.length (fun H => SqT K H a xs) (YPair (fun i => some (.int (i : Nat))) (fun i => xs[i]?)) where
  goes := fun i H hi h => by
    obtain ⟨x, hx⟩ : ∃ x, xs[i]? = some x := ⟨_, List.getElem?_eq_getElem hi⟩
    exact ⟨xs, x, h, hx⟩
  stops := fun H h => ⟨xs, h, rfl⟩
  yields := fun i H v H' _ h ⟨T, x, e1, e2, e3, e4⟩ => ⟨T, .int (i : Nat), x, e1, e2, e3, rfl, e4 xs h⟩
end TP
namespace TP
open PySem PySem.Spec PyProof.Rows L2
structure Shows (d : PyData) : Prop where
  ok : okD d = true
  len : rb d ≤ 16777216
  deep : d.depth ≤ 60
def rRepr (K : PySem.W.Frag) : List V → Hp → VK → Prop := fun xs H Q => ∃ v d, xs = [v] ∧ Dp K H v d ∧ Shows d ∧ Q (.str d.shown) H
theorem w_repr {K : PySem.W.Frag} {H : Hp} {Q : VK} {v : V} {d : PyData} (h : Dp K H v d) (s : Shows d) (q : Q (.str d.shown) H) : rRepr K [v] H Q := ⟨v, d, rfl, h, s, q⟩
theorem call_repr {X : Cx} (hg : X.A.guards = some []) (hu : X.A.units + 64 < cLine) : CallR X (.builtin "repr") (rRepr X.K) := by
  intro pins s σ H xs us Q I r h
  obtain ⟨v, d, rfl, hd, hs, q⟩ := h
  obtain ⟨u, rfl, ru⟩ := vals1 r
  have hz : d.shown.length ≤ sizeLine := Nat.le_trans (shown_le d hs.ok) (Nat.le_trans hs.len (by rw [sizeLine_eq]; exact Nat.le_refl _))
  obtain ⟨s1, s2⟩ := showable_of d hs.ok
  have big : ∀ a, u = .ref a → wpAny (model X.prog X.w) X.A (call (.builtin "repr") [u]) (EP X pins σ Q) X.xe s := fun a e => by
    subst e
    obtain ⟨as, rd⟩ := Dp.reads I d v _ hd ru
    refine repr_of_reads' rd s1 (fun z => by rw [s2] at z; cases z) hg (by have := hs.deep; omega) (fun _ _ e => e) (fun h' w' tk hk => ?_) hz
    exact ⟨.str d.shown, H, I.kept (t' := tk) hk, ⟨_, rfl⟩, q⟩
  cases hd with
  | non =>
    have e : u = .none := ru
    subst e
    exact PySem.P.repr_of_none ⟨.str _, H, I.tok _, ⟨_, rfl⟩, q⟩
  | bl b =>
    have e : u = .bool b := ru
    subst e
    refine PySem.P.repr_of_bool ⟨.str _, H, I.tok _, ⟨_, rfl⟩, ?_⟩
    cases b <;> exact q
  | int i =>
    obtain ⟨t, rfl⟩ := ru
    refine PySem.P.repr_of_int ?_ ⟨.str _, H, I.tok _, ⟨_, rfl⟩, q⟩
    simpa [okD] using hs.ok
  | str x =>
    obtain ⟨t, rfl⟩ := ru
    exact PySem.P.repr_of_str ⟨.str _, H, I.tok _, ⟨_, rfl⟩, q⟩ hz
  | lst _ _ => exact big _ ru
  | tup _ _ => exact big _ ru
def tyD : PyData → String
  | .none => "NoneType"
  | .bool _ => "bool"
  | .int _ => "int"
  | .str _ => "str"
  | .list _ => "list"
  | .tuple _ => "tuple"
  | .dict _ => "dict"
theorem w_isi {K : PySem.W.Frag} {H : Hp} {Q : VK} {v : V} {t T : String} {b : Bool} (h : TyX K H v (.type t)) (e : kitB t T = some b) (q : Q (.bl b) H) : rIsi K [v, .ty T] H Q := ⟨v, .ty T, .type t, .type T, b, rfl, .ty T, h, kit_ty e, q⟩
def repS (n : Nat) (x : Str) : Str := ⟨((List.replicate n x.cps.toList).flatten).toArray⟩
theorem foldl_cat (l : List (Array Nat)) : ∀ acc : Array Nat, l.foldl (· ++ ·) acc = acc ++ ((l.map Array.toList).flatten).toArray := by
  induction l with
  | nil => intro acc; simp
  | cons a r ih => intro acc; rw [List.foldl_cons, ih]; apply Array.ext'; simp
theorem op_mul_str {X : Cx} : OpR X (binaryOp .Mult) (fun x y H Q => ∃ (z : Str) (n : Nat), x = .str z ∧ y = .int (n : Nat) ∧ z.length * n ≤ 100000 ∧ n ≤ 100000 ∧ Q (.str (repS n z)) H) := by
  intro pins s σ H x y v u Q I rx ry h
  obtain ⟨z, n, rfl, rfl, hz, hn, q⟩ := h
  obtain ⟨t, rfl⟩ := rx
  obtain ⟨t', rfl⟩ := ry
  refine PySem.P.mul_str ?_ (fun _ _ => ?_) (fun _ _ => ?_) ?_
  · rw [decide_eq_false (show ¬ ((n : Int) < -(2 ^ 63)) by omega), decide_eq_false (show ¬ ((n : Int) ≥ 2 ^ 63) by omega)]; rfl
  · rename_i h1 h2
    have hn1 : 1 ≤ n := by omega
    have hz2 : (z.length : Int) * (n : Int) ≤ 100000 := by
      have q := Int.ofNat_le.mpr hz
      rw [Int.natCast_mul] at q
      exact q
    have hd : (z.length : Int) ≤ (2 ^ 63 - 1) / (n : Int) := Int.le_ediv_of_mul_le (by omega) (by omega)
    omega
  · unfold Builtin.Str.tooLong
    have e : ((n : Int)).toNat = n := by omega
    rw [e]
    exact decide_eq_false (by have := sz_le hz; omega)
  · have e : ((n : Int)).toNat = n := by omega
    rw [e]
    have fin : ∀ y : Str, y = repS n z → Made.post (Made.str y) (EP X pins σ Q) s := fun y ey => by
      subst ey
      refine ⟨?_, .str _, H, I.tok _, ⟨_, rfl⟩, q⟩
      show (repS n z).length ≤ sizeLine
      have el : (repS n z).length = z.length * n := by
        show ((List.replicate n z.cps.toList).flatten).toArray.size = z.cps.size * n
        simp [Nat.mul_comm]
      rw [el]; exact sz_le hz
    by_cases h1 : (n : Int) < 1
    · rw [if_pos h1]
      refine fin _ ?_
      have : n = 0 := by omega
      subst this
      rfl
    · rw [if_neg h1]
      by_cases h2 : ((n : Int) == 1 || z.length == 0) = true
      · rw [if_pos h2]
        have ez : z = repS n z := by
          rcases Bool.or_eq_true_iff.mp h2 with h3 | h3
          · have : n = 1 := by have := eq_of_beq h3; omega
            subst this
            unfold repS
            simp
          · have h4 : z.cps.size = 0 := by simpa [Str.length] using h3
            have h5 : z.cps = #[] := Array.eq_empty_of_size_eq_zero h4
            unfold repS
            cases z with
            | mk c =>
              have h6 : c = #[] := h5
              subst h6
              simp
        refine ⟨.str z, H, I, ⟨t, rfl⟩, ?_⟩
        rw [ez]
        rw [← ez]
        rw [← ez] at q
        exact q
      · rw [if_neg h2]
        refine fin _ ?_
        unfold repS
        rw [foldl_cat]
        simp
end TP
namespace TP
open PySem PySem.Spec PyProof.Rows L2
def PoolV (s d c : Int) : Prop := 0 ≤ s ∧ s < 1000000007 ∧ 0 ≤ d ∧ 0 ≤ c
def PoolAt (p : Addr) (h : Heap) : Prop := ∃ (s d c : Int) (its : List Value) (n : Nat), Vals [.int s, .int d, .int c] its ∧ PoolV s d c ∧ h.get? p = some { cls := .type "list", data := .seq its.toArray n }
def poolO (p : Addr) : HO := .ext (PoolAt p)
section
variable {P : Program} {w : World} {H H0 : Hp} {h h' : Heap} {p : Addr}
theorem objok_retrack {o u : HO} {a : Addr} (hp : H p = some o) (no : ∀ y, o ≠ .own y) (nt : ∀ xs, o ≠ .tup xs) {v : HO} (x : ObjOk P w H h a v) : ObjOk P w (upd H p u) h a v := by
  refine x.stay (fun b w' _ e => e) (fun b e => ?_) fun b xs e => ?_
  · exact (upd_ne (ne_of e hp fun z => no a z.symm)).trans e
  · exact (upd_ne (ne_of e hp fun z => nt xs z.symm)).trans e
theorem hok_retrack {o u : HO} (ok : HOk P w H h) (hp : H p = some o) (no : ∀ y, o ≠ .own y) (nt : ∀ xs, o ≠ .tup xs) (new : ObjOk P w (upd H p u) h p u) : HOk P w (upd H p u) h := fun a v e => by
  by_cases z : a = p
  · subst z; rw [upd_same] at e; cases e; exact new
  · rw [upd_ne z] at e
    exact objok_retrack hp no nt (ok a v e)
theorem pool_of_lst {s d c : Int} (ok : HOk P w H h) (hp : H p = some (.lst [.int s, .int d, .int c])) (hv : PoolV s d c) : HOk P w (upd H p (poolO p)) h := by
  refine hok_retrack ok hp (fun _ => nofun) (fun _ => nofun) ?_
  obtain ⟨_, its, n, r, e⟩ := ok p _ hp
  exact ⟨⟨s, d, c, its, n, r, hv, e⟩, ⟨_, e⟩, fun h1 h2 ⟨s, d, c, its, n, r, hv, e⟩ k => ⟨s, d, c, its, n, r, hv, k _ e⟩⟩
theorem lst_of_pool (ok : HOk P w H h) (hp : H p = some (poolO p)) : ∃ s d c, PoolV s d c ∧ HOk P w (upd H p (.lst [.int s, .int d, .int c])) h := by
  obtain ⟨⟨s, d, c, its, n, r, hv, e⟩, _, _⟩ := ok p _ hp
  exact ⟨s, d, c, hv, hok_retrack ok hp (fun _ => nofun) (fun _ => nofun) ⟨by show 3 ≤ sizeLine; decide, its, n, r, e⟩⟩
theorem un_retrack {fs ex : List Addr} {o u : HO} (un : Un fs ex H0 H h h') (hp : H p = some o) (nt : ∀ xs, o ≠ .tup xs) (nf : ∀ a b, o ≠ .frz a b) (nb : ∀ ps, o ≠ .tbl ps) : Un fs ex H0 (upd H p u) h h' where
  keep := un.keep
  slot := un.slot
  free := fun b ob e n hx => by
    have z := un.free b ob e n hx
    rw [upd_ne (fun q => by rw [q, hp] at z; cases z)]; exact z
  there := un.there
  tups := fun b xs e => by have z := un.tups b xs e; exact (upd_ne (ne_of z hp fun q => nt xs q.symm)).trans z
  frzs := fun b ob v e => by have z := un.frzs b ob v e; exact (upd_ne (ne_of z hp fun q => nf _ _ q.symm)).trans z
  tbls := fun b ps e => by
    obtain ⟨more, z⟩ := un.tbls b ps e
    exact ⟨more, (upd_ne (ne_of z hp fun q => nb _ q.symm)).trans z⟩
theorem un_retrack0 {fs ex : List Addr} {o u : HO} (un : Un fs ex (upd H0 p u) H h h') (hp : H0 p = some o) (nt : ∀ xs, o ≠ .tup xs) (nf : ∀ a b, o ≠ .frz a b) (nb : ∀ ps, o ≠ .tbl ps) : Un fs ex H0 H h h' := by
  have off : ∀ b, H0 b = none → upd H0 p u b = none := fun b n => by rw [upd_ne (fun q => by rw [q, hp] at n; cases n)]; exact n
  refine ⟨fun b ob e n => un.keep b ob e (off b n), fun b ob e n => un.slot b ob e (off b n), fun b ob e n => un.free b ob e (off b n), un.there, fun b xs e => un.tups b xs ?_, fun b ob v e => un.frzs b ob v ?_, fun b ps e => un.tbls b ps ?_⟩
  · exact (upd_ne (ne_of e hp fun q => nt xs q.symm)).trans e
  · exact (upd_ne (ne_of e hp fun q => nf _ _ q.symm)).trans e
  · exact (upd_ne (ne_of e hp fun q => nb _ q.symm)).trans e
theorem env_retrack {K : PySem.W.Frag} {mg : Str → Option Value} {base : Heap} {A : Around} {outer : List Env} {s : Shared} {o u : HO} (e0 : Env0 P w K mg base A outer s H) (hp : H p = some o) (ok : HOk P w (upd H p u) s.heap) : Env0 P w K mg base A outer s (upd H p u) := by
  have off : ∀ b, H b = none → upd H p u b = none := fun b n => by rw [upd_ne (fun q => by rw [q, hp] at n; cases n)]; exact n
  exact ⟨e0.frames, e0.mod, fun b ob e => ⟨(e0.bs b ob e).1, off b (e0.bs b ob e).2⟩, e0.bsz, e0.funs, fun b hb => off b (e0.frf b hb), ok, e0.bare⟩
end
def spDrawC : Sp := fun vs H Q _ => ∃ (p : Addr) (s d c m : Int), vs = [.ref p, .int m] ∧ H p = some (.lst [.int s, .int d, .int c]) ∧ PoolV s d c ∧ 0 < m ∧ m < 2 ^ 200 ∧
  ∀ (r s' d' c' : Int) (H' : Hp), 0 ≤ r → r < m → SameB p H H' → H' p = some (.lst [.int s', .int d', .int c']) → PoolV s' d' c' → Q (.int r) H'
def spDraw : Sp := fun vs H Q _ => ∃ (p : Addr) (m : Int), vs = [.ref p, .int m] ∧ H p = some (poolO p) ∧ 0 < m ∧ m < 2 ^ 200 ∧
  ∀ (r : Int) (H' : Hp), 0 ≤ r → r < m → Same H H' → Q (.int r) H'
def spPoolC : Sp := fun vs H Q _ => ∃ n : Int, vs = [.int n] ∧ ∀ (p : Addr) (s d c : Int) (H' : Hp), H p = none → Same H H' → H' p = some (.lst [.int s, .int d, .int c]) → PoolV s d c → Q (.ref p) H'
def spPool : Sp := fun vs H Q _ => ∃ n : Int, vs = [.int n] ∧ ∀ (p : Addr) (H' : Hp), H p = none → Same H H' → H' p = some (poolO p) → Q (.ref p) H'
section
variable {P : Program} {w : World} {K : PySem.W.Frag} {mg : Str → Option Value} {base : Heap} {k : Nat} {f : Addr} {fd : FuncData} {ps : List Str}
theorem draw_wrap (F : FnG P w K mg base CX0 k f fd ps spDrawC) (hl : ps.length = 2) : FnG P w K mg base CX0 k f fd ps spDraw := by
  refine ⟨fun vs H Q E ⟨p, m, e, _⟩ => by rw [e, hl]; rfl, fun A outer s H args us vs Q E hr hg e0 hb r hsp => ?_⟩
  obtain ⟨p, m, rfl, hp, m0, m1, q⟩ := hsp
  obtain ⟨s0, d0, c0, hv, ok1⟩ := lst_of_pool e0.hok hp
  refine codeAny_mono (F.run A outer s (upd H p (.lst [.int s0, .int d0, .int c0])) args us [.ref p, .int m] (fun v H1 => ∃ (r s' d' c' : Int), v = .int r ∧ 0 ≤ r ∧ r < m ∧ SameB p (upd H p (.lst [.int s0, .int d0, .int c0])) H1 ∧ H1 p = some (.lst [.int s', .int d', .int c']) ∧ PoolV s' d' c') E hr hg (env_retrack e0 hp ok1) hb r
    ⟨p, s0, d0, c0, m, rfl, upd_same, hv, m0, m1, fun r s' d' c' H' h0 h1 sb hq hv' => ⟨r, s', d', c', rfl, h0, h1, sb, hq, hv'⟩⟩) fun z s' hz => ?_
  cases z with
  | error e => exact hz
  | ok fl =>
    cases fl with
    | next => exact hz
    | brk => exact hz
    | cont => exact hz
    | ret u =>
      obtain ⟨v, H1, os, bare, un, hok1, rv, r, s2, d2, c2, rfl, h0, h1, sb, hq, hv2⟩ := hz
      refine ⟨.int r, upd H1 p (poolO p), os, bare, ?_, pool_of_lst hok1 hq hv2, rv, q r _ h0 h1 fun b o e => ?_⟩
      · exact un_retrack0 (un_retrack un hq (fun _ => nofun) (fun _ _ => nofun) fun _ => nofun) hp (fun _ => nofun) (fun _ _ => nofun) fun _ => nofun
      · by_cases z : b = p
        · subst z; rw [hp] at e; cases e; exact upd_same
        · rw [upd_ne z]; exact sb b o z ((upd_ne z).trans e)
theorem pool_wrap (F : FnG P w K mg base CX0 k f fd ps spPoolC) (hl : ps.length = 1) : FnG P w K mg base CX0 k f fd ps spPool := by
  refine ⟨fun vs H Q E ⟨n, e, _⟩ => by rw [e, hl]; rfl, fun A outer s H args us vs Q E hr hg e0 hb r hsp => ?_⟩
  obtain ⟨n, rfl, q⟩ := hsp
  refine codeAny_mono (F.run A outer s H args us [.int n] (fun v H1 => ∃ (p : Addr) (s' d' c' : Int), v = .ref p ∧ H p = none ∧ Same H H1 ∧ H1 p = some (.lst [.int s', .int d', .int c']) ∧ PoolV s' d' c') E hr hg e0 hb r
    ⟨n, rfl, fun p s' d' c' H' h0 sb hq hv' => ⟨p, s', d', c', rfl, h0, sb, hq, hv'⟩⟩) fun z s' hz => ?_
  cases z with
  | error e => exact hz
  | ok fl =>
    cases fl with
    | next => exact hz
    | brk => exact hz
    | cont => exact hz
    | ret u =>
      obtain ⟨v, H1, os, bare, un, hok1, rv, p, s2, d2, c2, rfl, h0, sb, hq, hv2⟩ := hz
      refine ⟨.ref p, upd H1 p (poolO p), os, bare, ?_, pool_of_lst hok1 hq hv2, rv, q p _ h0 (fun b o e => ?_) upd_same⟩
      · exact un_retrack un hq (fun _ => nofun) (fun _ _ => nofun) fun _ => nofun
      · rw [upd_ne (ne_of_none e h0)]; exact sb b o e
end
section
variable {P : Program} {w : World} {K : PySem.W.Frag} {mg : Str → Option Value} {base : Heap} {k : Nat} {x : Str} {st : Stmt} {ps : List Str}
theorem has_draw (F : Has P w K mg base CX0 k x st ps spDrawC) (hl : ps.length = 2) : Has P w K mg base CX0 k x st ps spDraw := by
  obtain ⟨fd, D, G⟩ := F.ex
  exact ⟨⟨fd, D, draw_wrap G hl⟩, F.glo⟩
theorem has_pool (F : Has P w K mg base CX0 k x st ps spPoolC) (hl : ps.length = 1) : Has P w K mg base CX0 k x st ps spPool := by
  obtain ⟨fd, D, G⟩ := F.ex
  exact ⟨⟨fd, D, pool_wrap G hl⟩, F.glo⟩
end
end TP
namespace TP
open PySem PySem.Spec PyProof.Rows L2
def ForOk (J : It) (g : TG) (tb : TS) (D : Ends) (σ : L2.St) (H : Hp) : Prop := ∃ W : Nat → Nat → L2.St → Hp → Prop, (∃ m, W 0 m σ H) ∧ ∀ i m σ H, W i m σ H →
  (J.stop i H ∧ D.nx σ H) ∨ (J.go i H ∧ ∃ N : L2.St → Hp → Prop, (∀ σ' H', N σ' H' → ∃ m', m' < m ∧ W (i + 1) m' σ' H') ∧ ∀ x H', J.yld i H x H' → g x σ H' fun σ2 H2 => tb { D with nx := N, ct := N, bk := D.nx } σ2 H2)
def LcI (H1 : Hp) (D : Addr) (Acc : Nat → List V → Hp → Prop) (i : Nat) (H : Hp) : Prop := ∃ acc, Same H1 H ∧ H D = some (.lst acc) ∧ acc.length ≤ i ∧ Acc i acc H
def LcY (H1 : Hp) (D : Addr) (Acc : Nat → List V → Hp → Prop) (i : Nat) (y : V) (H : Hp) : Prop := ∃ acc, H D = some (.lst acc) ∧ acc.length < sizeLine ∧ LcI H1 D Acc (i + 1) (upd H D (.lst (acc ++ [y])))
def LcOk (J : It) (g : TG) (tt : TT) (te : TE) (vs : List Nat) (σ : L2.St) (H1 : Hp) (D : Addr) (Q : VK) : Prop := ∃ W : Nat → Nat → Hp → Prop, (∃ m, W 0 m (upd H1 D (.lst []))) ∧ ∀ i m H, W i m H →
  (J.stop i H ∧ Q (.ref D) H) ∨ (J.go i H ∧ ∃ Nx : Hp → Prop, (∀ H', Nx H' → ∃ m', m' < m ∧ W (i + 1) m' H') ∧ ∀ x H', J.yld i H x H' → g x (wipe σ vs) H' fun σ2 H2 => wipe σ2 vs = wipe σ vs ∧ tt σ2 H2 fun b H3 =>
    if b = true then te σ2 H3 fun y H4 => ∃ acc, H4 D = some (.lst acc) ∧ acc.length < sizeLine ∧ Nx (upd H4 D (.lst (acc ++ [y]))) else Nx H3)
section
variable {J : It} {n : Nat} {G : Hp → Prop} {Y : Nat → Hp → V → Hp → Prop} {g : TG} {tt : TT} {te : TE} {tb : TS} {De : Ends} {wi : TI} {vs : List Nat} {σ : L2.St} {H H1 H2 : Hp} {D : Addr} {Q : VK} {Acc : Nat → List V → Hp → Prop} {K : PySem.W.Frag}
theorem w_for (h : wi σ H fun J H1 => ForOk J g tb De σ H1) : tFor wi g tb De σ H := h
instance i_w_for : StepX (tFor wi g tb De σ H) (wi σ H fun J H1 => ForOk J g tb De σ H1) := ⟨fun h => w_for h⟩
theorem w_lc (h : wi σ H fun J H1 => ∀ D, H1 D = none → LcOk J g tt te vs σ H1 D Q) : tLc wi g tt te vs σ H Q := h
instance i_w_lc : StepX (tLc wi g tt te vs σ H Q) (wi σ H fun J H1 => ∀ D, H1 D = none → LcOk J g tt te vs σ H1 D Q) := ⟨fun h => w_lc h⟩
theorem w_yes {QB : Bool → Hp → Prop} (h : QB true H) : tYes σ H QB := h
instance i_w_yes {QB : Bool → Hp → Prop} : StepX (tYes σ H QB) (QB true H) := ⟨fun h => w_yes h⟩
theorem for_go (w : Walk J n G Y) (Pv : Nat → L2.St → Hp → Prop) (h0 : Pv 0 σ H) (hG : ∀ i σ H, i ≤ n → Pv i σ H → G H)
    (hs : ∀ i x σ H H', i < n → Pv i σ H → Y i H x H' → g x σ H' fun σ2 H2 => tb { De with nx := Pv (i + 1), ct := Pv (i + 1), bk := De.nx } σ2 H2) (hd : ∀ σ H, Pv n σ H → De.nx σ H) : ForOk J g tb De σ H := for_it w Pv h0 hG hs hd
theorem lc_go (w : Walk J n G Y) (Acc : Nat → List V → Hp → Prop) (hD : H1 D = none) (hG : ∀ H, Same H1 H → G H) (h0 : Acc 0 [] (upd H1 D (.lst [])))
    (hs : ∀ i x H H' acc, i < n → Same H1 H → H D = some (.lst acc) → acc.length ≤ i → Acc i acc H → Y i H x H' → g x (wipe σ vs) H' fun σ2 H2 => wipe σ2 vs = wipe σ vs ∧ tt σ2 H2 fun b H3 =>
      if b = true then te σ2 H3 fun y H4 => LcY H1 D Acc i y H4 else LcI H1 D Acc (i + 1) H3)
    (hd : ∀ acc H, Same H1 H → H D = some (.lst acc) → acc.length ≤ n → Acc n acc H → Q (.ref D) H) : LcOk J g tt te vs σ H1 D Q :=
  lc_it w (fun i H => LcI H1 D Acc i H) ⟨[], same_new hD, upd_same, Nat.le_refl _, h0⟩ (fun i H _ ⟨_, s, _⟩ => hG H s) (fun i x H H' hi ⟨acc, s, e, l, a⟩ hy => hs i x H H' acc hi s e l a hy) fun H ⟨acc, s, e, l, a⟩ => hd acc H s e l a
theorem lc_y {i : Nat} {y : V} {acc : List V} (hD : H1 D = none) (s : Same H1 H) (e : H D = some (.lst acc)) (l : acc.length ≤ i) (hi : i < 100000) (a : Acc (i + 1) (acc ++ [y]) (upd H D (.lst (acc ++ [y])))) : LcY H1 D Acc i y H :=
  ⟨acc, e, sz_lt (by omega), acc ++ [y], same_mut s hD, upd_same, by simp; omega, a⟩
theorem lc_map (w : Walk J n G Y) (hn : n ≤ 100000) (f : Nat → V → Prop) (hD : H1 D = none) (hG : ∀ H, Same H1 H → G H)
    (hs : ∀ i x H H', i < n → Same H1 H → Y i H x H' → ∀ Qy : VK, (∀ y H4, Same H H4 → f i y → Qy y H4) → g x (wipe σ vs) H' fun σ2 H2 => wipe σ2 vs = wipe σ vs ∧ te σ2 H2 Qy)
    (hd : ∀ acc H, Same H1 H → H1 D = none → H D = some (.lst acc) → acc.length = n → (∀ i y, acc[i]? = some y → f i y) → Q (.ref D) H)
    (mono : ∀ {x σ H} {Q Q' : L2.St → Hp → Prop}, (∀ σ H, Q σ H → Q' σ H) → g x σ H Q → g x σ H Q') : LcOk J g tYes te vs σ H1 D Q := by
  let AccM : Nat → List V → Hp → Prop := fun i acc H => acc.length = i ∧ ∀ (j : Nat) (y : V), acc[j]? = some y → f j y
  refine lc_go w AccM hD hG ⟨rfl, fun j y e => by simp at e⟩ (fun i x H H' acc hi s e l a hy => ?_) fun acc H s e _ a => hd acc H s hD e a.1 a.2
  refine mono (fun σ2 H2 q => ⟨q.1, ?_⟩) (hs i x H H' hi s hy (fun y H4 => LcY H1 D AccM i y H4) fun y H4 s4 fy => lc_y (Acc := AccM) hD (s.trans s4) (s4 _ _ e) l (by omega) ⟨by simp [a.1], fun j z ej => ?_⟩)
  · exact w_yes (w_iteT q.2)
  · by_cases q : j < acc.length
    · rw [List.getElem?_append_left q] at ej; exact a.2 j z ej
    · rw [List.getElem?_append_right (Nat.le_of_not_lt q)] at ej
      have q2 : j = acc.length := by
        obtain ⟨h1, _⟩ := List.getElem?_eq_some_iff.mp ej
        simp at h1; omega
      subst q2
      simp at ej
      subst ej
      rw [a.1]; exact fy
theorem mono_gname {j : Nat} : ∀ {x σ H} {Q Q' : L2.St → Hp → Prop}, (∀ σ H, Q σ H → Q' σ H) → gName j x σ H Q → gName j x σ H Q' := fun h q => h _ _ q
def OnT (K : PySem.W.Frag) (R : It → Hp → Prop) (v : V) (H : Hp) : Prop := ∃ a, v = .ref a ∧ (∃ xs, SqT K H a xs) ∧ R (Itt K a) H
def OnL (K : PySem.W.Frag) (R : It → Hp → Prop) (v : V) (H : Hp) : Prop := ∃ a, v = .ref a ∧ (∃ xs, SqL K H a xs) ∧ R (Itl K a) H
def OnS (R : It → Hp → Prop) (v : V) (H : Hp) : Prop := ∃ x, v = .str x ∧ R (Its x) H
def OnR1 (R : It → Hp → Prop) (vs : List V) (H : Hp) : Prop := ∃ j : Int, vs = [.int j] ∧ -(2 ^ 62) ≤ j ∧ j < 2 ^ 62 ∧ R (Itr 0 j.toNat) H
def OnR2 (R : It → Hp → Prop) (vs : List V) (H : Hp) : Prop := ∃ i j : Int, vs = [.int i, .int j] ∧ (-(2 ^ 62) ≤ i ∧ i < 2 ^ 62 ∧ -(2 ^ 62) ≤ j ∧ j < 2 ^ 62) ∧ R (Itr i (j - i).toNat) H
def OnE (K : PySem.W.Frag) (R : It → Hp → Prop) (vs : List V) (H : Hp) : Prop := ∃ a xs, vs = [.ref a] ∧ SqT K H a xs ∧ R (IteT K a) H
variable {R : It → Hp → Prop} {ta : TA} {a : Addr} {xs : List V}
theorem w_iTup (h : te σ H (OnT K R)) : iTup K te σ H R := h
instance i_w_iTup : StepX (iTup K te σ H R) (te σ H (OnT K R)) := ⟨fun h => w_iTup h⟩
theorem w_iList (h : te σ H (OnL K R)) : iList K te σ H R := h
instance i_w_iList : StepX (iList K te σ H R) (te σ H (OnL K R)) := ⟨fun h => w_iList h⟩
theorem w_iStr (h : te σ H (OnS R)) : iStr te σ H R := h
instance i_w_iStr : StepX (iStr te σ H R) (te σ H (OnS R)) := ⟨fun h => w_iStr h⟩
theorem w_iRng1 (h : ta σ H (OnR1 R)) : iRng1 ta σ H R := h
instance i_w_iRng1 : StepX (iRng1 ta σ H R) (ta σ H (OnR1 R)) := ⟨fun h => w_iRng1 h⟩
theorem w_iRng2 (h : ta σ H (OnR2 R)) : iRng2 ta σ H R := h
instance i_w_iRng2 : StepX (iRng2 ta σ H R) (ta σ H (OnR2 R)) := ⟨fun h => w_iRng2 h⟩
theorem w_iEnumT (h : ta σ H (OnE K R)) : iEnumT K ta σ H R := h
instance i_w_iEnumT : StepX (iEnumT K ta σ H R) (ta σ H (OnE K R)) := ⟨fun h => w_iEnumT h⟩
theorem w_onT (hs : SqT K H a xs) (h : R (Itt K a) H) : OnT K R (.ref a) H := ⟨a, rfl, ⟨xs, hs⟩, h⟩
theorem w_onL (hs : SqL K H a xs) (h : R (Itl K a) H) : OnL K R (.ref a) H := ⟨a, rfl, ⟨xs, hs⟩, h⟩
theorem w_onS {x : Str} (h : R (Its x) H) : OnS R (.str x) H := ⟨x, rfl, h⟩
instance i_w_onS {x : Str} : StepX (OnS R (.str x) H) (R (Its x) H) := ⟨fun h => w_onS h⟩
theorem w_onR1 {j : Int} (h1 : -(2 ^ 62) ≤ j ∧ j < 2 ^ 62) (h : R (Itr 0 j.toNat) H) : OnR1 R [.int j] H := ⟨j, rfl, h1.1, h1.2, h⟩
theorem w_onR2 {i j : Int} (h1 : -(2 ^ 62) ≤ i ∧ i < 2 ^ 62 ∧ -(2 ^ 62) ≤ j ∧ j < 2 ^ 62) (h : R (Itr i (j - i).toNat) H) : OnR2 R [.int i, .int j] H := ⟨i, j, rfl, h1, h⟩
theorem w_onE (hs : SqT K H a xs) (h : R (IteT K a) H) : OnE K R [.ref a] H := ⟨a, xs, rfl, hs, h⟩
end
def rLenV (K : PySem.W.Frag) : List V → Hp → VK → Prop := fun xs H Q => ∃ x n, xs = [x] ∧ LenV K x H n ∧ Q (.int n) H
def rAbs : List V → Hp → VK → Prop := fun xs H Q => ∃ i, xs = [.int i] ∧ Q (.int (if i < 0 then -i else i)) H
def rMx2 : List V → Hp → VK → Prop := fun xs H Q => ∃ i j, xs = [.int i, .int j] ∧ Q (.int (if j > i then j else i)) H
def rMn2 : List V → Hp → VK → Prop := fun xs H Q => ∃ i j, xs = [.int i, .int j] ∧ Q (.int (if j < i then j else i)) H
def rInt1 : List V → Hp → VK → Prop := fun xs H Q => (∃ i, xs = [.int i] ∧ Q (.int i) H) ∨ ∃ k, xs = [.bl k] ∧ Q (.int (if k then 1 else 0)) H
def rTupS (K : PySem.W.Frag) : List V → Hp → VK → Prop := fun xs H Q => ∃ p ys, xs = [.ref p] ∧ ((SqL K H p ys ∧ ∀ l, H l = none → Q (.ref l) (upd H l (.tup ys))) ∨ (SqT K H p ys ∧ Q (.ref p) H))
def rDivW : List V → Hp → VK → Prop := fun xs H Q => ∃ i j, xs = [.int i, .int j] ∧ CDivP i j ∧ ∀ p, H p = none → Q (.ref p) (upd H p (.tup [.int (i / j), .int (i % j)]))
def rInSign : R2 := fun x y H Q => ∃ (c : Nat) (z : Str), x = .str ⟨#[c]⟩ ∧ y = .str z ∧ Q (.bl (decide (c ∈ z.cps.toList))) H
def rIsN : R2 := fun x y H Q => y = .non ∧ Q (.bl (decide (x = .non))) H
def rNotN : R2 := fun x y H Q => y = .non ∧ Q (.bl (!decide (x = .non))) H
def rLeS : R2 := fun x y H Q => ∃ i j, x = .str i ∧ y = .str j ∧ Q (.bl (!decide (j.cps.toList < i.cps.toList))) H
def rAddS : R2 := fun x y H Q => ∃ i j, x = .str i ∧ y = .str j ∧ i.length + j.length ≤ sizeLine ∧ Q (.str (i ++ j)) H
def rMulS : R2 := fun x y H Q => ∃ (z : Str) (n : Nat), x = .str z ∧ y = .int (n : Nat) ∧ z.length * n ≤ 100000 ∧ n ≤ 100000 ∧ Q (.str (repS n z)) H
def rJoin (K : PySem.W.Frag) : V → List V → Hp → VK → Prop := fun x xs H Q => ∃ a p, ∃ ys : List Str, x = .str a ∧ xs = [.ref p] ∧ (SqL K H p (ys.map V.str) ∨ SqT K H p (ys.map V.str)) ∧ (ys.map (·.length)).sum + ys.length * a.length ≤ 16777216 ∧ Q (.str (Txt.join a ys)) H
section
variable {X : Cx}
theorem c_len : CallR X (.builtin "len") (rLenV X.K) := call_len
theorem c_abs : CallR X (.builtin "abs") rAbs := call_abs
theorem c_max2 (hc : X.calm = true) : CallR X (.builtin "max") rMx2 := call_max2 hc
theorem c_min2 (hc : X.calm = true) : CallR X (.builtin "min") rMn2 := call_min2 hc
theorem c_int1 : CallR X (.type "int") rInt1 := call_int1
theorem c_tuple : CallR X (.type "tuple") (rTupS X.K) := call_tuple_of
theorem c_divmod : CallR X (.builtin "divmod") rDivW := call_divmodW
theorem o_inSign : OpR X (compareOp .In) rInSign := op_in_sign
theorem o_isN : OpR X (compareOp .Is) rIsN := op_isN
theorem o_notN : OpR X (compareOp .IsNot) rNotN := op_notN
theorem o_leS : OpR X (compareOp .LtE) rLeS := op_le_str
theorem o_addS : OpR X (binaryOp .Add) rAddS := op_add_str
theorem o_mulS : OpR X (binaryOp .Mult) rMulS := op_mul_str
end
section
variable {σ : L2.St} {H : Hp} {Q : VK} {K : PySem.W.Frag} {v x y : V} {a p : Addr} {xs ys : List V}
theorem w_lenT (hs : SqT K H a xs) (h : Q (.int (xs.length : Nat)) H) : rLenV K [.ref a] H Q := ⟨_, _, rfl, .inr ⟨xs, hs, rfl⟩, h⟩
theorem w_lenL (hs : SqL K H a xs) (h : Q (.int (xs.length : Nat)) H) : rLenV K [.ref a] H Q := ⟨_, _, rfl, .inl ⟨xs, hs, rfl⟩, h⟩
theorem w_lenS {z : Str} (hz : z.length ≤ sizeLine) (h : Q (.int (z.length : Nat)) H) : rLenV K [.str z] H Q := ⟨_, _, rfl, ⟨hz, rfl⟩, h⟩
theorem w_abs {i : Int} (h : Q (.int (if i < 0 then -i else i)) H) : rAbs [.int i] H Q := ⟨i, rfl, h⟩
instance i_w_abs {i : Int} : StepX (rAbs [.int i] H Q) (Q (.int (if i < 0 then -i else i)) H) := ⟨fun h => w_abs h⟩
theorem w_mx2 {i j : Int} (h : Q (.int (if j > i then j else i)) H) : rMx2 [.int i, .int j] H Q := ⟨i, j, rfl, h⟩
instance i_w_mx2 {i j : Int} : StepX (rMx2 [.int i, .int j] H Q) (Q (.int (if j > i then j else i)) H) := ⟨fun h => w_mx2 h⟩
theorem w_mn2 {i j : Int} (h : Q (.int (if j < i then j else i)) H) : rMn2 [.int i, .int j] H Q := ⟨i, j, rfl, h⟩
instance i_w_mn2 {i j : Int} : StepX (rMn2 [.int i, .int j] H Q) (Q (.int (if j < i then j else i)) H) := ⟨fun h => w_mn2 h⟩
theorem w_int1 {i : Int} (h : Q (.int i) H) : rInt1 [.int i] H Q := .inl ⟨i, rfl, h⟩
instance i_w_int1 {i : Int} : StepX (rInt1 [.int i] H Q) (Q (.int i) H) := ⟨fun h => w_int1 h⟩
theorem w_tupL (hs : SqL K H a xs) (h : ∀ l, H l = none → Q (.ref l) (upd H l (.tup xs))) : rTupS K [.ref a] H Q := ⟨a, xs, rfl, .inl ⟨hs, h⟩⟩
theorem w_divW {i j : Int} (c : CDivP i j) (h : ∀ p, H p = none → Q (.ref p) (upd H p (.tup [.int (i / j), .int (i % j)]))) : rDivW [.int i, .int j] H Q := ⟨i, j, rfl, c, h⟩
theorem w_inSign {c : Nat} {z : Str} (h : Q (.bl (decide (c ∈ z.cps.toList))) H) : rInSign (.str ⟨#[c]⟩) (.str z) H Q := ⟨c, z, rfl, rfl, h⟩
instance i_w_inSign {c : Nat} {z : Str} : StepX (rInSign (.str ⟨#[c]⟩) (.str z) H Q) (Q (.bl (decide (c ∈ z.cps.toList))) H) := ⟨fun h => w_inSign h⟩
theorem w_isN (h : Q (.bl (decide (x = .non))) H) : rIsN x .non H Q := ⟨rfl, h⟩
instance i_w_isN : StepX (rIsN x .non H Q) (Q (.bl (decide (x = .non))) H) := ⟨fun h => w_isN h⟩
theorem w_notN (h : Q (.bl (!decide (x = .non))) H) : rNotN x .non H Q := ⟨rfl, h⟩
instance i_w_notN : StepX (rNotN x .non H Q) (Q (.bl (!decide (x = .non))) H) := ⟨fun h => w_notN h⟩
theorem w_isNN (h : Q (.bl true) H) : rIsN .non .non H Q := ⟨rfl, h⟩
instance i_w_isNN : StepX (rIsN .non .non H Q) (Q (.bl true) H) := ⟨fun h => w_isNN h⟩
theorem w_isNI {i : Int} (h : Q (.bl false) H) : rIsN (.int i) .non H Q := ⟨rfl, by have e : decide (V.int i = V.non) = false := decide_eq_false nofun; rw [e]; exact h⟩
instance i_w_isNI {i : Int} : StepX (rIsN (.int i) .non H Q) (Q (.bl false) H) := ⟨fun h => w_isNI h⟩
theorem w_isNR (h : Q (.bl false) H) : rIsN (.ref a) .non H Q := ⟨rfl, by have e : decide (V.ref a = V.non) = false := decide_eq_false nofun; rw [e]; exact h⟩
instance i_w_isNR : StepX (rIsN (.ref a) .non H Q) (Q (.bl false) H) := ⟨fun h => w_isNR h⟩
theorem w_notNN (h : Q (.bl false) H) : rNotN .non .non H Q := ⟨rfl, h⟩
instance i_w_notNN : StepX (rNotN .non .non H Q) (Q (.bl false) H) := ⟨fun h => w_notNN h⟩
theorem w_notNI {i : Int} (h : Q (.bl true) H) : rNotN (.int i) .non H Q := ⟨rfl, by have e : decide (V.int i = V.non) = false := decide_eq_false nofun; rw [e]; exact h⟩
instance i_w_notNI {i : Int} : StepX (rNotN (.int i) .non H Q) (Q (.bl true) H) := ⟨fun h => w_notNI h⟩
theorem w_notNR (h : Q (.bl true) H) : rNotN (.ref a) .non H Q := ⟨rfl, by have e : decide (V.ref a = V.non) = false := decide_eq_false nofun; rw [e]; exact h⟩
instance i_w_notNR : StepX (rNotN (.ref a) .non H Q) (Q (.bl true) H) := ⟨fun h => w_notNR h⟩
theorem w_leS {i j : Str} (h : Q (.bl (!decide (j.cps.toList < i.cps.toList))) H) : rLeS (.str i) (.str j) H Q := ⟨i, j, rfl, rfl, h⟩
instance i_w_leS {i j : Str} : StepX (rLeS (.str i) (.str j) H Q) (Q (.bl (!decide (j.cps.toList < i.cps.toList))) H) := ⟨fun h => w_leS h⟩
theorem w_addS {i j : Str} (hz : i.length + j.length ≤ sizeLine) (h : Q (.str (i ++ j)) H) : rAddS (.str i) (.str j) H Q := ⟨i, j, rfl, rfl, hz, h⟩
theorem w_mulS {z : Str} {i : Int} {n : Nat} (e : i = (n : Int)) (h1 : z.length * n ≤ 100000) (h2 : n ≤ 100000) (h : Q (.str (repS n z)) H) : rMulS (.str z) (.int i) H Q := ⟨z, n, rfl, by rw [e], h1, h2, h⟩
theorem w_all {bs : List Bool} (hs : SqL K H a (bs.map V.bl)) (h : Q (.bl (bs.all id)) H) : rAll K [.ref a] H Q := ⟨a, bs, rfl, hs, h⟩
theorem w_sortedS {ws : List Str} (hs : SqL K H a (ws.map V.str)) (hl : ws.length < 64) (h : ∀ (ys : List Str) (p : Addr), ys.Perm ws → sortedS ys = true → H p = none → Q (.ref p) (upd H p (.lst (ys.map V.str)))) : rSortedS K [.ref a] H Q := ⟨a, ws, rfl, hs, hl, h⟩
theorem w_cat {l b : Addr} {xs zs : List V} (h1 : H l = some (.lst xs)) (h2 : H b = some (.lst zs)) (hz : xs.length + zs.length ≤ sizeLine) (h : ∀ p, H p = none → Q (.ref p) (upd H p (.lst (xs ++ zs)))) : rCat (.ref l) (.ref b) H Q := ⟨l, b, xs, zs, rfl, rfl, h1, h2, hz, h⟩
theorem w_append {l : Addr} (h1 : H l = some (.lst xs)) (hz : xs.length < sizeLine) (h : Q .non (upd H l (.lst (xs ++ [y])))) : rAppend (.ref l) [y] H Q := ⟨l, xs, y, rfl, rfl, h1, hz, h⟩
theorem w_slL {lo hi : Option Int} (hs : SqL K H a xs) (h : ∀ p, H p = none → Q (.ref p) (upd H p (.lst (cutV xs lo hi)))) : rSlL K (.ref a) lo hi H Q := ⟨a, xs, rfl, hs, h⟩
theorem w_slS {z : Str} {lo hi : Option Int} (hz : z.length ≤ sizeLine) (h : Q (.str (cutS z lo hi)) H) : rSlS (.str z) lo hi H Q := ⟨z, rfl, hz, h⟩
theorem w_ixS {z : Str} {i : Int} {c : Nat} (hz : z.length ≤ sizeLine) (ha : atI z.cps.toList i = some c) (h : Q (.str ⟨#[c]⟩) H) : rIxS (.str z) (.int i) H Q := ⟨z, i, c, rfl, rfl, hz, ha, h⟩
theorem w_M1 {r : V → List V → Hp → VK → Prop} {to te : TE} (h : to σ H fun x H1 => (∃ a, x = .str a) ∧ te σ H1 fun y H2 => r x [y] H2 Q) : tM1 r to te σ H Q := h
instance i_w_M1 {r : V → List V → Hp → VK → Prop} {to te : TE} : StepX (tM1 r to te σ H Q) (to σ H fun x H1 => (∃ a, x = .str a) ∧ te σ H1 fun y H2 => r x [y] H2 Q) := ⟨fun h => w_M1 h⟩
theorem w_strx {z : Str} {C : Prop} (h : C) : (∃ a, V.str z = .str a) ∧ C := ⟨⟨z, rfl⟩, h⟩
instance i_w_strx {z : Str} {C : Prop} : StepX ((∃ a, V.str z = .str a) ∧ C) (C) := ⟨fun h => w_strx h⟩
theorem w_tyL {C : Prop} (h1 : H a = some (.lst xs)) (h : C) : tyV K "list" (.ref a) H ∧ C := ⟨.inl ⟨rfl, xs, SqL.of h1⟩, h⟩
theorem w_join {s : Str} {ws : List Str} (hs : SqL K H a (ws.map V.str)) (hz : (ws.map (·.length)).sum + ws.length * s.length ≤ 16777216) (h : Q (.str (Txt.join s ws)) H) : rJoin K (.str s) [.ref a] H Q := ⟨s, a, ws, rfl, rfl, .inl hs, hz, h⟩
theorem w_dget2 {td ty tx : TE} (h : td σ H fun x H1 => ∃ a, x = .ref a ∧ IsD H1 a ∧ ty σ H1 fun y H2 => tx σ H2 fun z H3 => ∃ o, DGet H3 a y o ∧ Q (o.getD z) H3) : tDGet2 td ty tx σ H Q := h
instance i_w_dget2 {td ty tx : TE} : StepX (tDGet2 td ty tx σ H Q) (td σ H fun x H1 => ∃ a, x = .ref a ∧ IsD H1 a ∧ ty σ H1 fun y H2 => tx σ H2 fun z H3 => ∃ o, DGet H3 a y o ∧ Q (o.getD z) H3) := ⟨fun h => w_dget2 h⟩
theorem w_dput {td ty tv : TE} {De : Ends} (h : tv σ H fun v H1 => td σ H1 fun x H2 => ty σ H2 fun y H3 => ∃ a H4, x = .ref a ∧ DPut H3 a y v H4 ∧ De.nx σ H4) : sDPut td ty tv De σ H := h
instance i_w_dput {td ty tv : TE} {De : Ends} : StepX (sDPut td ty tv De σ H) (tv σ H fun v H1 => td σ H1 fun x H2 => ty σ H2 fun y H3 => ∃ a H4, x = .ref a ∧ DPut H3 a y v H4 ∧ De.nx σ H4) := ⟨fun h => w_dput h⟩
end
end TP
namespace TP
open PySem PySem.Spec PyProof.Rows L2
structure Fre (mg : Str → Option Value) : Prop where
  len_ : mg "len" = none
  isinstance_ : mg "isinstance" = none
  range_ : mg "range" = none
  enumerate_ : mg "enumerate" = none
  zip_ : mg "zip" = none
  reversed_ : mg "reversed" = none
  int_ : mg "int" = none
  str_ : mg "str" = none
  bool_ : mg "bool" = none
  tuple_ : mg "tuple" = none
  list_ : mg "list" = none
  dict_ : mg "dict" = none
  bytes_ : mg "bytes" = none
  set_ : mg "set" = none
  sum_ : mg "sum" = none
  all_ : mg "all" = none
  any_ : mg "any" = none
  abs_ : mg "abs" = none
  min_ : mg "min" = none
  max_ : mg "max" = none
  sorted_ : mg "sorted" = none
  repr_ : mg "repr" = none
  divmod_ : mg "divmod" = none
  type_ : mg "type" = none
  map_ : mg "map" = none
  iter_ : mg "iter" = none
  next_ : mg "next" = none
section
variable {σ : L2.St} {H : Hp} {Q : VK} {QO : Option Int → Hp → Prop} {tr tk : TA} {te : TE} {D : Ends} {sp : Sp} {E : XK}
def Par2 (k : V → V → Prop) (vs : List V) : Prop := ∃ v w, vs = [v, w] ∧ k v w
def Par3 (k : V → V → V → Prop) (vs : List V) : Prop := ∃ u v w, vs = [u, v, w] ∧ k u v w
theorem w_p2 {k : V → V → Prop} {a b : V} (h : k a b) : Par2 k [a, b] := ⟨a, b, rfl, h⟩
instance i_w_p2 {k : V → V → Prop} {a b : V} : StepX (Par2 k [a, b]) (k a b) := ⟨fun h => w_p2 h⟩
theorem w_p3 {k : V → V → V → Prop} {a b c : V} (h : k a b c) : Par3 k [a, b, c] := ⟨a, b, c, rfl, h⟩
instance i_w_p3 {k : V → V → V → Prop} {a b c : V} : StepX (Par3 k [a, b, c]) (k a b c) := ⟨fun h => w_p3 h⟩
theorem w_tpar {i j : Nat} (h : tr σ H fun vs H1 => Par2 (fun v w => D.nx ((σ.set i (some v)).set j (some w)) H1) vs) : tPar i j tr D σ H := h
theorem w_tpar3 {i j l : Nat} (h : tr σ H fun vs H1 => Par3 (fun u v w => D.nx (((σ.set i (some u)).set j (some v)).set l (some w)) H1) vs) : tPar3 i j l tr D σ H := h
def IntC (x : V) (k : Int → Prop) : Prop := ∃ i, x = .int i ∧ k i
theorem w_intC {i : Int} {k : Int → Prop} (h : k i) : IntC (.int i) k := ⟨i, rfl, h⟩
instance i_w_intC {i : Int} {k : Int → Prop} : StepX (IntC (.int i) k) (k i) := ⟨fun h => w_intC h⟩
theorem w_tpart (h : te σ H fun x H1 => IntC x fun i => QO (some i) H1) : tPart te σ H QO := h
instance i_w_tpart : StepX (tPart te σ H QO) (te σ H fun x H1 => IntC x fun i => QO (some i) H1) := ⟨fun h => w_tpart h⟩
def KwC (n m : Nat) (g : {α : Type} → List α → List α → List α) (vs zs : List V) (k : List V → Prop) : Prop := vs.length = n ∧ zs.length = m ∧ k (g vs zs)
theorem w_kwC {n m : Nat} {g : {α : Type} → List α → List α → List α} {vs zs : List V} {k : List V → Prop} (h1 : vs.length = n) (h2 : zs.length = m) (h : k (g vs zs)) : KwC n m g vs zs k := ⟨h1, h2, h⟩
theorem w_tcallW {n m : Nat} {g : {α : Type} → List α → List α → List α} (h : tr σ H fun vs H1 => tk σ H1 fun zs H2 => KwC n m g vs zs fun as => sp as H2 Q E) : tCallW sp n m g E tr tk σ H Q := h
instance i_w_tcallW {n m : Nat} {g : {α : Type} → List α → List α → List α} : StepX (tCallW sp n m g E tr tk σ H Q) (tr σ H fun vs H1 => tk σ H1 fun zs H2 => KwC n m g vs zs fun as => sp as H2 Q E) := ⟨fun h => w_tcallW h⟩
end
end TP
namespace TP
open PySem PySem.Spec PyProof.Rows L2
theorem acc_map {α β : Type} {acc : List β} {l : List α} {f : α → β} (hl : acc.length = l.length) (hf : ∀ (i : Nat) (y : β), acc[i]? = some y → ∃ a, l[i]? = some a ∧ y = f a) : acc = l.map f := by
  refine List.ext_getElem? fun i => ?_
  rw [List.getElem?_map]
  cases e : acc[i]? with
  | some y =>
    obtain ⟨a, h1, h2⟩ := hf i y e
    rw [h1, h2]; rfl
  | none =>
    rw [List.getElem?_eq_none (by rw [← hl]; exact List.getElem?_eq_none_iff.mp e)]; rfl
theorem all_map_id {α : Type} (f : α → Bool) (l : List α) : (l.map f).all id = l.all f := by
  rw [List.all_map]; rfl
theorem mono_gpair {K : PySem.W.Frag} {i j : Nat} : ∀ {x : V} {σ : L2.St} {H : Hp} {Q Q' : L2.St → Hp → Prop}, (∀ σ H, Q σ H → Q' σ H) → gTup K 2 (gCons (gName i) (gCons (gName j) gNil)) x σ H Q → gTup K 2 (gCons (gName i) (gCons (gName j) gNil)) x σ H Q' :=
  fun h ⟨a, xs, e, hs, hn, v, r, e1, w, r2, e2, e3, q⟩ => ⟨a, xs, e, hs, hn, v, r, e1, w, r2, e2, e3, h _ _ q⟩
theorem take_succ_snoc {α : Type} : ∀ {l : List α} {i : Nat} {x : α}, l[i]? = some x → l.take (i + 1) = l.take i ++ [x]
  | [], i, x, h => by simp at h
  | a :: l, 0, x, h => by simp at h; subst h; rfl
  | a :: l, i + 1, x, h => by
    have ih := take_succ_snoc (l := l) (i := i) (x := x) (by simpa using h)
    rw [List.take_succ_cons, ih]; rfl
def wholeD : PyData → Bool
  | .int _ => true
  | _ => false
def isIntD : PyData → Bool
  | .int _ => true
  | .bool _ => true
  | _ => false
def isBoolD : PyData → Bool
  | .bool _ => true
  | _ => false
def isStrD : PyData → Bool
  | .str _ => true
  | _ => false
def isTupD : PyData → Bool
  | .tuple _ => true
  | _ => false
theorem isi_int (d : PyData) : kitB (tyD d) "int" = some (isIntD d) := by
  cases d
  · exact (by decide +kernel : kitB "NoneType" "int" = some false)
  · exact (by decide +kernel : kitB "bool" "int" = some true)
  · exact (by decide +kernel : kitB "int" "int" = some true)
  · exact (by decide +kernel : kitB "str" "int" = some false)
  · exact (by decide +kernel : kitB "list" "int" = some false)
  · exact (by decide +kernel : kitB "tuple" "int" = some false)
  · exact (by decide +kernel : kitB "dict" "int" = some false)
theorem isi_bool (d : PyData) : kitB (tyD d) "bool" = some (isBoolD d) := by
  cases d
  · exact (by decide +kernel : kitB "NoneType" "bool" = some false)
  · exact (by decide +kernel : kitB "bool" "bool" = some true)
  · exact (by decide +kernel : kitB "int" "bool" = some false)
  · exact (by decide +kernel : kitB "str" "bool" = some false)
  · exact (by decide +kernel : kitB "list" "bool" = some false)
  · exact (by decide +kernel : kitB "tuple" "bool" = some false)
  · exact (by decide +kernel : kitB "dict" "bool" = some false)
theorem isi_str (d : PyData) : kitB (tyD d) "str" = some (isStrD d) := by
  cases d
  · exact (by decide +kernel : kitB "NoneType" "str" = some false)
  · exact (by decide +kernel : kitB "bool" "str" = some false)
  · exact (by decide +kernel : kitB "int" "str" = some false)
  · exact (by decide +kernel : kitB "str" "str" = some true)
  · exact (by decide +kernel : kitB "list" "str" = some false)
  · exact (by decide +kernel : kitB "tuple" "str" = some false)
  · exact (by decide +kernel : kitB "dict" "str" = some false)
theorem isi_tup (d : PyData) : kitB (tyD d) "tuple" = some (isTupD d) := by
  cases d
  · exact (by decide +kernel : kitB "NoneType" "tuple" = some false)
  · exact (by decide +kernel : kitB "bool" "tuple" = some false)
  · exact (by decide +kernel : kitB "int" "tuple" = some false)
  · exact (by decide +kernel : kitB "str" "tuple" = some false)
  · exact (by decide +kernel : kitB "list" "tuple" = some false)
  · exact (by decide +kernel : kitB "tuple" "tuple" = some true)
  · exact (by decide +kernel : kitB "dict" "tuple" = some false)
theorem szDs_get : ∀ {ds : List PyData} {i : Nat} {d : PyData}, szDs ds = true → ds[i]? = some d → szD d = true
  | [], i, d, _, e => by simp at e
  | a :: r, 0, d, h, e => by
    simp at e; subst e
    exact (Bool.and_eq_true_iff.mp (show (szD a && szDs r) = true from h)).1
  | a :: r, i + 1, d, h, e => szDs_get (i := i) (Bool.and_eq_true_iff.mp (show (szD a && szDs r) = true from h)).2 (by simpa using e)
def letters : Str := "abcdefghijklmnopqrstuvwxyz"
def isLet (c : Nat) : Bool := decide (97 ≤ c) && decide (c ≤ 122)
theorem mem_letters (c : Nat) : decide (c ∈ letters.cps.toList) = isLet c := by
  have e : letters.cps.toList = [97, 98, 99, 100, 101, 102, 103, 104, 105, 106, 107, 108, 109, 110, 111, 112, 113, 114, 115, 116, 117, 118, 119, 120, 121, 122] := by decide +kernel
  rw [e]
  unfold isLet
  by_cases h : 97 ≤ c ∧ c ≤ 122
  · rw [decide_eq_true h.1, decide_eq_true h.2]
    refine decide_eq_true ?_
    simp only [List.mem_cons, List.not_mem_nil, or_false]
    omega
  · have : (decide (97 ≤ c) && decide (c ≤ 122)) = false := by
      rw [Bool.and_eq_false_iff, decide_eq_false_iff_not, decide_eq_false_iff_not]; omega
    rw [this]
    refine decide_eq_false ?_
    simp only [List.mem_cons, List.not_mem_nil, or_false]
    omega
def isName (x : Str) : Bool := decide (0 < x.length) && (decide (x.length < 9) && x.cps.toList.all isLet)
def nameD : PyData → Bool
  | .str x => isName x
  | _ => false
def fromD (d : PyData) (j : Int) : Bool := match d with
  | .int i => decide (j ≤ i)
  | _ => false
def runD : PyData → Bool
  | .tuple [a, b] => nameD a && fromD b 1
  | _ => false
def nmD : PyData → Str
  | .tuple (.str x :: _) => x
  | _ => Str.empty
def badAt (ds : List PyData) (m : Int) (i : Nat) : Bool := decide (m ≤ (i : Int)) || (!runD (ds.getD i .none) || (decide (0 < i) && !decide (ltS (nmD (ds.getD (i - 1) .none)) (nmD (ds.getD i .none)))))
def firstBad (ds : List PyData) (m : Int) : Option Nat := (List.range ds.length).find? (badAt ds m)
theorem firstBad_some {ds : List PyData} {m : Int} {i : Nat} (hi : i < ds.length) (hb : badAt ds m i = true) (hp : ∀ j, j < i → badAt ds m j = false) : firstBad ds m = some i := by
  unfold firstBad
  rw [List.find?_range_eq_some]
  exact ⟨hb, List.mem_range.mpr hi, fun j hj => by rw [hp j hj]; rfl⟩
theorem firstBad_none {ds : List PyData} {m : Int} (hp : ∀ j, j < ds.length → badAt ds m j = false) : firstBad ds m = none := by
  unfold firstBad
  rw [List.find?_eq_none]
  intro j hj
  rw [hp j (List.mem_range.mp hj)]
  exact Bool.false_ne_true
def optV : Option Nat → V
  | none => .non
  | some i => .int (i : Nat)
def pairD (p : Str × Int) : PyData := .tuple [.str p.1, .int p.2]
def bagD (ps : Bag) : PyData := .tuple (ps.map pairD)
structure BagOk (ps : Bag) : Prop where
  asc : ps.Pairwise fun a b => ltS a.1 b.1
  nam : ∀ p ∈ ps, isName p.1 = true
  pos : ∀ p ∈ ps, 1 ≤ p.2
theorem pairD_run {p : Str × Int} (h1 : isName p.1 = true) (h2 : 1 ≤ p.2) : runD (pairD p) = true := by
  show (isName p.1 && decide (1 ≤ p.2)) = true
  rw [h1, decide_eq_true h2]; rfl
theorem bag_good {ps : Bag} (h : BagOk ps) {m : Int} (hm : (ps.length : Int) ≤ m) : firstBad (ps.map pairD) m = none := by
  refine firstBad_none fun i hi => ?_
  rw [List.length_map] at hi
  have e : (ps.map pairD).getD i .none = pairD ps[i] := by simp [List.getD, hi]
  unfold badAt
  rw [e, decide_eq_false (by omega), pairD_run (h.nam _ (List.getElem_mem hi)) (h.pos _ (List.getElem_mem hi))]
  by_cases h0 : 0 < i
  · have e2 : (ps.map pairD).getD (i - 1) .none = pairD (ps[i - 1]'(by omega)) := by simp [List.getD, show i - 1 < ps.length by omega]
    rw [e2, decide_eq_true h0]
    have q := List.pairwise_iff_getElem.mp h.asc (i - 1) i (by omega) hi (by omega)
    have q2 : ltS (nmD (pairD (ps[i - 1]'(by omega)))) (nmD (pairD ps[i])) := q
    rw [decide_eq_true q2]; rfl
  · rw [decide_eq_false h0]; rfl
theorem szD_bag {ps : Bag} (h : ∀ p ∈ ps, p.1.length ≤ 100000) : szDs (ps.map pairD) = true := by
  induction ps with
  | nil => rfl
  | cons p r ih =>
    have h1 := h p List.mem_cons_self
    show (szD (pairD p) && szDs (r.map pairD)) = true
    rw [ih fun q hq => h q (List.mem_cons_of_mem _ hq)]
    simp [szD, szDs, pairD, h1]
theorem isName_len {x : Str} (h : isName x = true) : 0 < x.length ∧ x.length < 9 := by
  unfold isName at h
  have h1 := Bool.and_eq_true_iff.mp h
  have h2 := Bool.and_eq_true_iff.mp h1.2
  exact ⟨of_decide_eq_true h1.1, of_decide_eq_true h2.1⟩
theorem isName_let {x : Str} (h : isName x = true) : x.cps.toList.all isLet = true := by
  unfold isName at h
  exact (Bool.and_eq_true_iff.mp (Bool.and_eq_true_iff.mp h).2).2
theorem BagOk.sz {ps : Bag} (h : BagOk ps) : szDs (ps.map pairD) = true := szD_bag fun p hp => by have := (isName_len (h.nam p hp)).2; omega
section
variable {K : PySem.W.Frag} {H : Hp}
theorem pair_inv {v : V} {p : Str × Int} (h : Dp K H v (pairD p)) : ∃ a, v = .ref a ∧ SqT K H a [.str p.1, .int p.2] := by
  obtain ⟨a, xs, rfl, hs, hd⟩ := dp_tup_inv h
  refine ⟨a, rfl, ?_⟩
  cases hd with
  | cons h1 r =>
    cases r with
    | cons h2 r2 =>
      cases r2
      rw [dp_str_inv h1, dp_int_inv h2] at hs
      exact hs
theorem pair_mk {a : Addr} {n : Str} {c : Int} (h : SqT K H a [.str n, .int c]) : Dp K H (.ref a) (pairD (n, c)) := .tup h (.cons (.str n) (.cons (.int c) .nil))
theorem bag_inv {v : V} {ps : Bag} (h : Dp K H v (bagD ps)) : ∃ a xs, v = .ref a ∧ SqT K H a xs ∧ DpAll K H xs (ps.map pairD) ∧ xs.length = ps.length := by
  obtain ⟨a, xs, rfl, hs, hd⟩ := dp_tup_inv h
  exact ⟨a, xs, rfl, hs, hd, by rw [dps_len hd, List.length_map]⟩
theorem bag_get {xs : List V} {ps : Bag} {i : Nat} {x : V} (hd : DpAll K H xs (ps.map pairD)) (e : xs[i]? = some x) : ∃ p b, ps[i]? = some p ∧ x = .ref b ∧ SqT K H b [.str p.1, .int p.2] := by
  obtain ⟨d, h1, h2⟩ := dps_get hd e
  rw [List.getElem?_map] at h1
  cases q : ps[i]? with
  | none => rw [q] at h1; cases h1
  | some p =>
    rw [q] at h1
    have e2 : pairD p = d := Option.some.inj h1
    subst e2
    obtain ⟨b, e3, h3⟩ := pair_inv h2
    exact ⟨p, b, rfl, e3, h3⟩
end
theorem flat_bag (ps : Bag) : flatD (bagD ps) = true := by
  unfold bagD flatD
  induction ps with
  | nil => rfl
  | cons p r ih => show (flatD (pairD p) && flatDs (r.map pairD)) = true; rw [ih]; rfl
end TP
namespace TP
open PySem PySem.Spec PyProof.Rows L2
theorem str_ext {x y : Str} (h : x.cps.toList = y.cps.toList) : x = y := by
  cases x; cases y
  congr 1
  exact Array.ext' h
theorem app_list (x y : Str) : (x ++ y).cps.toList = x.cps.toList ++ y.cps.toList := by
  show (x.cps ++ y.cps).toList = _
  simp
theorem len_list (x : Str) : x.length = x.cps.toList.length := by show x.cps.size = _; simp
theorem join0_list : ∀ ys : List Str, (Str.join (Str.ofString "") ys).cps.toList = (ys.map fun y => y.cps.toList).flatten
  | [] => rfl
  | [x] => by simp [Str.join]
  | x :: y :: r => by
    have ih := join0_list (y :: r)
    show (x ++ Str.ofString "" ++ Str.join (Str.ofString "") (y :: r)).cps.toList = _
    rw [app_list, app_list, ih]
    have e : (Str.ofString "").cps.toList = [] := by decide +kernel
    rw [e]
    simp
theorem txt_join_eq (s : Str) (ys : List Str) : Txt.join s ys = Str.join s ys := TL.join_eq s ys
def lets (x : Str) : Prop := ∀ c ∈ x.cps.toList, isLet c = true
theorem isName_of {x : Str} (h0 : 0 < x.length) (h1 : x.length < 9) (h2 : lets x) : isName x = true := by
  unfold isName
  rw [decide_eq_true h0, decide_eq_true h1, List.all_eq_true.mpr h2]; rfl
def menuW : List Str := ["more", "less", "sum", "few", "many", "gain", "columns", "range", "order", "merge", "a", "b", "c", "x", "y"]
def wordA (b i : Nat) : Str := menuW.getD ((b + 4 * i) % 15) Str.empty
def wordB (b i : Nat) : Str := repS (1 + i % 8) ⟨#[97 + (b + 7 * i) % 26]⟩
def wordC (b : Nat) (l r : List Nat) (i : Nat) : Str := ⟨(l ++ (97 + (b + 5 * i) % 26) :: r).toArray⟩
theorem wordA_all : ∀ b, b < 15 → ((List.range 15).map (wordA b)).Nodup ∧ ∀ w ∈ (List.range 15).map (wordA b), isName w = true := by decide +kernel
theorem wordB_all : ∀ b, b < 15 → ((List.range 15).map (wordB b)).Nodup ∧ ∀ w ∈ (List.range 15).map (wordB b), isName w = true := by decide +kernel
theorem range_prefix {α : Type} {f : Nat → α} {n m : Nat} (h : n ≤ m) : (List.range n).map f = ((List.range m).map f).take n := by
  rw [← List.map_take, List.take_range, Nat.min_eq_left h]
theorem words_of {f : Nat → Str} {n : Nat} (hn : n ≤ 15) (h : ((List.range 15).map f).Nodup ∧ ∀ w ∈ (List.range 15).map f, isName w = true) : ((List.range n).map f).Nodup ∧ ∀ w ∈ (List.range n).map f, isName w = true := by
  rw [range_prefix hn]
  exact ⟨h.1.sublist (List.take_sublist _ _), fun w hw => h.2 w (List.mem_of_mem_take hw)⟩
theorem wordC_all {b : Nat} {l r : List Nat} (hb : b < 15) (hl : ∀ c ∈ l, isLet c = true) (hr : ∀ c ∈ r, isLet c = true) (hn : l.length + r.length ≤ 7) : ((List.range 15).map (wordC b l r)).Nodup ∧ ∀ w ∈ (List.range 15).map (wordC b l r), isName w = true := by
  constructor
  · unfold List.Nodup
    rw [List.pairwise_map]
    refine List.Pairwise.imp_of_mem ?_ List.nodup_range
    intro i j hi hj hne e
    apply hne
    have hi' := List.mem_range.mp hi
    have hj' := List.mem_range.mp hj
    have e2 : (l ++ (97 + (b + 5 * i) % 26) :: r) = (l ++ (97 + (b + 5 * j) % 26) :: r) := by
      have := congrArg (fun z : Str => z.cps.toList) e
      simpa [wordC] using this
    have e3 := List.append_cancel_left e2
    injection e3 with e4 _
    omega
  · intro w hw
    obtain ⟨i, _, rfl⟩ := List.mem_map.mp hw
    have e : (wordC b l r i).cps.toList = l ++ (97 + (b + 5 * i) % 26) :: r := by simp [wordC]
    refine isName_of ?_ ?_ fun c hc => ?_
    · rw [len_list, e]; simp; omega
    · rw [len_list, e]; simp; omega
    · rw [e] at hc
      rcases List.mem_append.mp hc with h | h
      · exact hl c h
      · rcases List.mem_cons.mp h with h | h
        · subst h
          unfold isLet
          rw [decide_eq_true (by omega), decide_eq_true (by omega)]; rfl
        · exact hr c h
structure WordsOk (ws : List Str) (n : Nat) : Prop where
  len : ws.length = n
  nd : ws.Nodup
  nam : ∀ w ∈ ws, isName w = true
theorem words_mk {f : Nat → Str} {n : Nat} (hn : n ≤ 15) (h : ((List.range 15).map f).Nodup ∧ ∀ w ∈ (List.range 15).map f, isName w = true) : WordsOk ((List.range n).map f) n :=
  ⟨by simp, (words_of hn h).1, (words_of hn h).2⟩
theorem at_of' {α : Type} {xs : List α} {z : Int} {j : Nat} {v : α} (e : z = (j : Int)) (h : xs[j]? = some v) : atI xs z = some v := by rw [e]; exact atI_nat h
theorem letters_at {i : Int} (h0 : 0 ≤ i) (h1 : i < 26) : atI letters.cps.toList i = some (97 + i.toNat) := by
  have all : ∀ j : Nat, j < 26 → letters.cps.toList[j]? = some (97 + j) := by decide +kernel
  exact at_of' (j := i.toNat) (by omega) (all i.toNat (by omega))
theorem tri : ∀ a b : List Nat, a < b ∨ a = b ∨ b < a
  | [], [] => .inr (.inl rfl)
  | [], _ :: _ => .inl (List.nil_lt_cons _ _)
  | _ :: _, [] => .inr (.inr (List.nil_lt_cons _ _))
  | a :: r, b :: t => by
    rcases Nat.lt_trichotomy a b with h | h | h
    · exact .inl (List.cons_lt_cons_iff.mpr (.inl h))
    · subst h
      rcases tri r t with h | h | h
      · exact .inl (List.cons_lt_cons_iff.mpr (.inr ⟨rfl, h⟩))
      · exact .inr (.inl (by rw [h]))
      · exact .inr (.inr (List.cons_lt_cons_iff.mpr (.inr ⟨rfl, h⟩)))
    · exact .inr (.inr (List.cons_lt_cons_iff.mpr (.inl h)))
theorem ltS_trans {a b c : Str} (h : ltS a b) (h2 : ltS b c) : ltS a c := List.lt_trans h h2
theorem ltS_irrefl (a : Str) : ¬ ltS a a := List.lt_irrefl _
theorem ltS_tri (a b : Str) : ltS a b ∨ a = b ∨ ltS b a := by
  rcases tri a.cps.toList b.cps.toList with h | h | h
  · exact .inl h
  · exact .inr (.inl (str_ext h))
  · exact .inr (.inr h)
theorem ltS_ne {a b : Str} (h : ltS a b) : a ≠ b := fun e => by subst e; exact ltS_irrefl _ h
theorem rising_asc : ∀ (l : List Str) (p : Str), risingS p l = true → (p :: l).Nodup → (p :: l).Pairwise ltS
  | [], p, _, _ => List.pairwise_singleton _ _
  | x :: r, p, h, nd => by
    have h' := Bool.and_eq_true_iff.mp (show (!ltCps x.cps.toList p.cps.toList && risingS x r) = true from h)
    have nd' := List.nodup_cons.mp nd
    have ih := rising_asc r x h'.2 nd'.2
    have nlt : ¬ ltS x p := fun q => by
      have e : ltCps x.cps.toList p.cps.toList = true := by rw [ltCps_eq]; exact decide_eq_true q
      rw [e] at h'
      exact Bool.false_ne_true h'.1
    have px : ltS p x := by
      rcases ltS_tri p x with q | q | q
      · exact q
      · exact absurd (by rw [q]; exact List.mem_cons_self) nd'.1
      · exact absurd q nlt
    rw [List.pairwise_cons]
    refine ⟨fun z hz => ?_, ih⟩
    rcases List.mem_cons.mp hz with e | hz
    · rw [e]; exact px
    · exact ltS_trans px ((List.pairwise_cons.mp ih).1 z hz)
theorem sorted_asc : ∀ {ys : List Str}, sortedS ys = true → ys.Nodup → ys.Pairwise ltS
  | [], _, _ => .nil
  | x :: r, h, nd => rising_asc r x h nd
theorem asc_take {ys : List Str} (asc : ys.Pairwise ltS) {i : Nat} (hi : i < ys.length) {z : Str} (hz : z ∈ ys.take i) : ltS z ys[i] := by
  obtain ⟨j, hj, e⟩ := List.mem_iff_getElem.mp hz
  rw [List.getElem_take] at e
  rw [List.length_take] at hj
  subst e
  exact List.pairwise_iff_getElem.mp asc j i (by omega) hi (by omega)
end TP
namespace TP
open PySem PySem.Spec PyProof.Rows L2
section
variable {X : Cx} (K : PySem.W.Frag)
theorem k_ixL (h : X.K = K := by rfl) : IxR X (rIxL K) := by subst h; exact ix_list
theorem k_ixT (h : X.K = K := by rfl) : IxR X (rIxT K) := by subst h; exact ix_tup
theorem k_slL (h : X.K = K := by rfl) : SlR X (rSlL K) := by subst h; exact sl_list
theorem k_slT (h : X.K = K := by rfl) : SlR X (rSlA K) := by subst h; exact sl_tupA
theorem k_len (h : X.K = K := by rfl) : CallR X (.builtin "len") (rLenV K) := by subst h; exact c_len
theorem k_tuple (h : X.K = K := by rfl) : CallR X (.type "tuple") (rTupS K) := by subst h; exact c_tuple
theorem k_all (hc : X.calm = true) (h : X.K = K := by rfl) : CallR X (.builtin "all") (rAll K) := by subst h; exact cr_all hc
theorem k_max (hc : X.calm = true) (h : X.K = K := by rfl) : CallR X (.builtin "max") (rMax K) := by subst h; exact cr_max hc
theorem k_min (hc : X.calm = true) (h : X.K = K := by rfl) : CallR X (.builtin "min") (rMin K) := by subst h; exact cr_min hc
theorem k_sortedS (h : X.K = K := by rfl) : CallR X (.builtin "sorted") (rSortedS K) := by subst h; exact cr_sortedS
theorem k_repr (hg : X.A.guards = some []) (hu : X.A.units + 64 < cLine) (h : X.K = K := by rfl) : CallR X (.builtin "repr") (rRepr K) := by subst h; exact call_repr hg hu
theorem k_isi (h : X.K = K := by rfl) : CallR X (.builtin "isinstance") (rIsi K) := by subst h; exact call_isi
variable {o e a b : Expr} {to te ta tb : TE} {apos cpos pos p tpos : Pos} {es : List Expr} {t : TA} {tg : Expr} {rest : List Expr}
theorem k_join (ho : PE X o to) (he : PE X e te) (h : X.K = K := by rfl) (hs : starEach [e] X.env = [(false, eval e X.env)] := by rfl) (hbase : attributeBase o "join" X.env (eval o X.env) = eval o X.env := by rfl) (hline : (apos.endLine == pos.line) = true := by rfl) :
    PE X (.Call (.Attribute o "join" apos) [e] [] pos) (tM1 (rJoin K) to te) := by subst h; exact pe_join ho he hs hbase hline
theorem k_bm {T id : String} {name : Str} {r : V → List V → Hp → VK → Prop} (pa : PlainAttrs T) (slot : Slot T name id) (hty : typeOf (.builtin id) = pure (.type "method_descriptor")) (hm : MtR X id r) (ho : PE X o to) (ha : PA X (e :: es) t) (h : X.K = K := by rfl)
    (hbase : attributeBase o name X.env (eval o X.env) = eval o X.env := by rfl)
    (hfew : ((backTo cpos (starEach (e :: es) X.env)).all (fun x => !x.1) && (backToKw cpos (keywordEach [] X.env)).all (fun x => x.1.isSome) && decide ((e :: es).length + ([] : List Keyword).length + (if ([] : List Keyword).isEmpty then 0 else 1) < 30)) = true := by rfl)
    (hline : (apos.endLine == cpos.line) = true := by rfl) (hs : starEach (e :: es) X.env = (false, eval e X.env) :: starEach es X.env := by rfl) (hplain : (backTo cpos (starEach es X.env)).any (·.1) = false := by rfl) :
    PE X (.Call (.Attribute o name apos) (e :: es) [] cpos) (tBM K T r to t) := by subst h; exact pe_bm pa slot hty hm ho ha hbase hfew hline hs hplain
theorem k_fld {f : Str} (he : PE X e ta) (hb : attributeBase e f X.env (eval e X.env) = eval e X.env) (h : X.K = K := by rfl) : PE X (.Attribute e f pos) (tFld K ta f) := by subst h; exact pe_fld he hb
theorem k_orT (ha : PE X a ta) (hb : PE X (.BoolOp .Or (b :: rest) pos) tb) (h : X.K = K := by rfl) : PE X (.BoolOp .Or (a :: b :: rest) pos) (tOrT K ta tb) := by subst h; exact pe_orT ha hb
theorem k_gtup {k n : Nat} {t : TGs} (hc : X.calm = true) (hg : PGs X es t) (h : X.K = K := by rfl) (hn : (assignEach es X.env).length = n := by rfl) (hst : (assignEach es X.env).findIdx? (·.1) = none := by rfl) : PG X (.Tuple es k pos) (gTup K n t) := by subst h; exact pg_tup hc hg hn hst
theorem k_iList (hl : PE X e te) (h : X.K = K := by rfl) : PI X tg e (iList K te) := by subst h; exact pi_list hl
theorem k_iTup (hl : PE X e te) (h : X.K = K := by rfl) : PI X tg e (iTup K te) := by subst h; exact pi_tup hl
theorem k_iEnumT {elts : List Expr} {kk : Nat} (hg : Gl X "enumerate") (hm : X.mg "enumerate" = none) (ha : PA X [e] t) (h : X.K = K := by rfl) (hs : starEach [e] X.env = [(false, eval e X.env)] := by rfl) :
    PI X (.Tuple elts kk tpos) (.Call (.Name "enumerate" p) [e] [] pos) (iEnumT K t) := by subst h; exact pi_enumT hg hm ha hs
end
theorem log2_le (i : Int) (h0 : 0 ≤ i) (h1 : i ≤ 10 ^ 100) : i.natAbs.log2 < 1920 := by
  refine Nat.lt_of_lt_of_le (PySem.Flt.log2_lt_of (by decide : 0 < 400) ?_) (by decide)
  have h2 : i.natAbs ≤ 10 ^ 100 := by omega
  exact Nat.lt_of_le_of_lt h2 (by decide)
theorem okD_name {x : Str} (h : isName x = true) : okD (.str x) = true := by
  show (x.cps.toList.all fun c => decide (c < 16 ^ 8)) = true
  rw [List.all_eq_true]
  intro c hc
  have := List.all_eq_true.mp (isName_let h) c hc
  unfold isLet at this
  have h2 := of_decide_eq_true (Bool.and_eq_true_iff.mp this).2
  exact decide_eq_true (by omega)
def BagS (ps : Bag) : Prop := ∀ p ∈ ps, isName p.1 = true ∧ 0 ≤ p.2 ∧ p.2 ≤ 10 ^ 100
theorem bag_shows_aux : ∀ ps : Bag, BagS ps → okDs (ps.map pairD) = true ∧ rbs (ps.map pairD) ≤ 2100 * ps.length ∧ PyData.depthAll (ps.map pairD) ≤ 1
  | [], _ => by simp [okDs, rbs, PyData.depthAll]
  | p :: r, h => by
    obtain ⟨i1, i2, i3⟩ := bag_shows_aux r fun q hq => h q (List.mem_cons_of_mem _ hq)
    obtain ⟨h1, h2, h3⟩ := h p List.mem_cons_self
    have hl := (isName_len h1).2
    have e1 : okD (pairD p) = true := by
      show (okD (.str p.1) && (okD (.int p.2) && true)) = true
      rw [okD_name h1, show okD (.int p.2) = true from decide_eq_true (log2_le _ h2 h3)]; rfl
    have e2 : rb (pairD p) = (10 * p.1.length + 2 + 2 + (1921 + 2 + 0)) + 3 := rfl
    have e3 : (pairD p).depth = 1 := by simp [pairD, PyData.depth, PyData.depthAll]
    refine ⟨?_, ?_, ?_⟩
    · show (okD (pairD p) && okDs (r.map pairD)) = true
      rw [e1, i1]; rfl
    · show rb (pairD p) + 2 + rbs (r.map pairD) ≤ _
      rw [e2, List.length_cons]; omega
    · show max (pairD p).depth (PyData.depthAll (r.map pairD)) ≤ 1
      rw [e3]; omega
theorem BagOk.s {ps : Bag} (h : BagOk ps) (hc : ∀ p ∈ ps, p.2 ≤ 10 ^ 100) : BagS ps := fun p hp => ⟨h.nam p hp, by have := h.pos p hp; omega, hc p hp⟩
theorem Has.fixed {P : Program} {w : World} {K : PySem.W.Frag} {mg : Str → Option Value} {base : Heap} {CX : CXT} {k : Nat} {x : Str} {st : Stmt} {ps : List Str} {sp : Sp} (h : Has P w K mg base CX k x st ps sp) {fd : FuncData}
    (F0 : FunD K x x (defArgs st) (defBody st) (defScope st) [] [] (He.ga K x) fd) : FnG P w K mg base CX k (He.ga K x) fd ps sp := by
  obtain ⟨fd', F1, G⟩ := h.ex
  have e : fd' = fd := by
    obtain ⟨oc, od, dV, kV, doc, pm, an, cdv, ct, osl, e1, l1, _⟩ := F1.ex
    obtain ⟨oc2, od2, dV2, kV2, doc2, pm2, an2, cdv2, ct2, osl2, e2, l2, _⟩ := F0.ex
    rw [l1] at l2
    injection l2 with l3
    injection l3 with _ _ l4 _
    injection l4
  rw [← e]; exact G
end TP
namespace TP
open PySem PySem.Spec PyProof.Rows L2
theorem vals_pick {xs : List V} {us : List Value} (r : Vals xs us) : ∀ js : List Nat, Vals (js.filterMap fun k => xs[k]?) (js.filterMap fun k => us[k]?)
  | [] => .nil
  | j :: js => by
    rw [List.filterMap_cons, List.filterMap_cons]
    cases e : xs[j]? with
    | none =>
      rw [r.none_of e]
      exact vals_pick r js
    | some x =>
      obtain ⟨u, e2, ru⟩ := r.get e
      rw [e2]
      exact .cons ru (vals_pick r js)
theorem asc_nodup {ps : Bag} (h : ps.Pairwise fun a b => ltS a.1 b.1) : (ps.map (·.1)).Nodup := by
  unfold List.Nodup
  rw [List.pairwise_map]
  exact h.imp fun h => ltS_ne h
end TP
namespace TP
open PySem PySem.Spec PyProof.Rows L2
def DGetC (x y : V) (H : Hp) (Q : VK) : Prop := ∃ a v, x = .ref a ∧ DGet H a y (some v) ∧ Q v H
theorem eqv_self : ∀ d : PyData, d.canLay0 = true → PyData.eqv d d = true := PySem.SeqAt.eqv_refl
section
variable {K : PySem.W.Frag} {σ : L2.St} {H : Hp} {Q : VK} {te td ty : TE} {QB : Bool → Hp → Prop} {a : Addr} {xs : List V} {v w : V}
theorem w_dget (h : td σ H fun x H1 => ty σ H1 fun y H2 => DGetC x y H2 Q) : tDGet td ty σ H Q := h
instance i_w_dget : StepX (tDGet td ty σ H Q) (td σ H fun x H1 => ty σ H1 fun y H2 => DGetC x y H2 Q) := ⟨fun h => w_dget h⟩
end
def SameV (K : PySem.W.Frag) (H : Hp) (x y : V) : Prop := (x = y ∧ flatB x = true) ∨ ∃ d, Dp K H x d ∧ Dp K H y d ∧ SeqAt.shaped d = true
inductive AllSame (K : PySem.W.Frag) (H : Hp) : List V → List V → Prop
  | nil : AllSame K H [] []
  | cons {x y : V} {xs ys : List V} : SameV K H x y → AllSame K H xs ys → AllSame K H (x :: xs) (y :: ys)
theorem AllSame.len {K : PySem.W.Frag} {H : Hp} : ∀ {xs ys : List V}, AllSame K H xs ys → xs.length = ys.length
  | _, _, .nil => rfl
  | _, _, .cons _ r => by rw [List.length_cons, List.length_cons, r.len]
theorem AllSame.flat {K : PySem.W.Frag} {H : Hp} : ∀ {xs : List V}, xs.all flatB = true → AllSame K H xs xs
  | [], _ => .nil
  | x :: r, h => by
    have h' := Bool.and_eq_true_iff.mp (show (flatB x && r.all flatB) = true from h)
    exact .cons (.inl ⟨rfl, h'.1⟩) (AllSame.flat h'.2)
def rNeL (K : PySem.W.Frag) : R2 := fun x y H Q => ∃ a b xs ys, x = .ref a ∧ y = .ref b ∧ SqL K H a xs ∧ SqL K H b ys ∧ AllSame K H xs ys ∧ Q (.bl false) H
section
variable {X : Cx} {pins : List (Addr × Obj)} {σ : L2.St} {H : Hp} {s : Shared}
theorem sameV_at (I : Inv X pins σ H s) (hu : X.A.units + 66 < cLine) {x y : V} {v u : Value} (h : SameV X.K H x y) (rx : RelV x v) (ry : RelV y u) : SeqAt.EqAt X.A.in1 s v u true := by
  rcases h with ⟨rfl, f⟩ | ⟨d, h1, h2, sh⟩
  · exact eqAt_same rx ry f
  · obtain ⟨as, r1⟩ := Dp.reads I d x v h1 rx
    obtain ⟨bs, r2⟩ := Dp.reads I d y u h2 ry
    have c := SeqAt.canLay_of_shaped sh
    have := SeqAt.eqAt_reads d d X.A.in1 s v u as bs r1 r2 c c (by have := SeqAt.depth_of_shaped sh; show X.A.units + 1 + min d.depth d.depth < cLine; omega)
    rwa [eqv_self d c] at this
theorem sameV_items (I : Inv X pins σ H s) (hu : X.A.units + 66 < cLine) : ∀ {xs ys : List V}, AllSame X.K H xs ys → ∀ {us ws : List Value}, Vals xs us → Vals ys ws → ∀ j (h1 : j < us.length) (h2 : j < ws.length), SeqAt.EqAt X.A.in1 s us[j] ws[j] true
  | _, _, .nil, us, ws, r1, r2, j, h1, h2 => by cases r1; exact absurd h1 (Nat.not_lt_zero j)
  | _, _, .cons h t, us, ws, r1, r2, j, h1, h2 => by
    cases r1 with
    | cons a1 b1 =>
      cases r2 with
      | cons a2 b2 =>
        cases j with
        | zero => exact sameV_at I hu h a1 a2
        | succ j => exact sameV_items I hu t b1 b2 j (Nat.lt_of_succ_lt_succ h1) (Nat.lt_of_succ_lt_succ h2)
theorem op_neL (hu : X.A.units + 66 < cLine) : OpR X (compareOp .NotEq) (rNeL X.K) := by
  intro pins s σ H x y v u Q I rx ry h
  obtain ⟨a, b, xs, ys, rfl, rfl, ha, hb, hp, q⟩ := h
  cases (show v = Value.ref a from rx)
  cases (show u = Value.ref b from ry)
  obtain ⟨us, r1, p1, _⟩ := I.list ha
  obtain ⟨ws, r2, p2, _⟩ := I.list hb
  have hsz : us.toArray.size = ws.toArray.size := by rw [List.size_toArray, List.size_toArray, ← r1.length, ← r2.length]; exact hp.len
  refine SeqAt.RcNeAt.lists (e := fun _ => true) p1.isList p2.isList hsz (by omega) (fun j h1 h2 => ?_) X.prog X.w _ _ ?_
  · have k := sameV_items I hu hp r1 r2 j (by simpa using h1) (by simpa using h2)
    simpa using k
  · rw [show ((List.range us.toArray.size).all fun _ => true) = true from List.all_eq_true.mpr fun _ _ => rfl]
    exact ⟨.bl false, H, I, rfl, q⟩
def rNeE (K : PySem.W.Frag) : R2 := fun x y H Q => ∃ a b xs, x = .ref a ∧ y = .ref b ∧ SqL K H a xs ∧ SqL K H b [] ∧ Q (.bl (!xs.isEmpty)) H
theorem op_neE (hu : X.A.units + 66 < cLine) : OpR X (compareOp .NotEq) (rNeE X.K) := by
  intro pins s σ H x y v u Q I rx ry h
  obtain ⟨a, b, xs, e1, e2, ha, hb, q⟩ := h
  cases xs with
  | nil => exact op_neL hu pins s σ H x y v u Q I rx ry ⟨a, b, [], [], e1, e2, ha, hb, .nil, q⟩
  | cons z r =>
    subst e1 e2
    cases (show v = Value.ref a from rx)
    cases (show u = Value.ref b from ry)
    obtain ⟨us, r1, p1, _⟩ := I.list ha
    obtain ⟨ws, r2, p2, _⟩ := I.list hb
    refine SeqAt.RcNeAt.lists_lengths p1.isList p2.isList ?_ (by omega) X.prog X.w _ _ ⟨.bl true, H, I, rfl, q⟩
    rw [List.size_toArray, List.size_toArray, ← r1.length, ← r2.length]
    simp
theorem k_neE (K : PySem.W.Frag) (hu : X.A.units + 66 < cLine) (h : X.K = K := by rfl) : OpR X (compareOp .NotEq) (rNeE K) := by subst h; exact op_neE hu
theorem k_neL (K : PySem.W.Frag) (hu : X.A.units + 66 < cLine) (h : X.K = K := by rfl) : OpR X (compareOp .NotEq) (rNeL K) := by subst h; exact op_neL hu
end
theorem u66 {k : Nat} {A : Around} (r : Room k A) : A.units + 66 < cLine := by have := r.un; omega
section
variable {K : PySem.W.Frag} {H : Hp} {Q : VK} {a b : Addr} {xs ys : List V}
theorem w_neE (h1 : SqL K H a xs) (h2 : SqL K H b []) (h : Q (.bl (!xs.isEmpty)) H) : rNeE K (.ref a) (.ref b) H Q := ⟨a, b, xs, rfl, rfl, h1, h2, h⟩
theorem w_neL (h1 : SqL K H a xs) (h2 : SqL K H b ys) (hs : AllSame K H xs ys) (h : Q (.bl false) H) : rNeL K (.ref a) (.ref b) H Q := ⟨a, b, xs, ys, rfl, rfl, h1, h2, hs, h⟩
theorem w_neF (h1 : SqL K H a xs) (h2 : SqL K H b ys) (e : xs = ys) (hf : xs.all flatB = true) (h : Q (.bl false) H) : rNeL K (.ref a) (.ref b) H Q := w_neL h1 h2 (by rw [← e]; exact .flat hf) h
end
end TP
namespace TP
open PySem PySem.Spec PyProof.Rows L2
def pick {α : Type} (js : List Nat) (l : List α) : List α := js.filterMap fun j => l[j]?
theorem vals_app {a b : List V} {c d : List Value} (h1 : Vals a c) (h2 : Vals b d) : Vals (a ++ b) (c ++ d) := h1.append h2
def BindJ (x q : Str) (st : Stmt) (ps : List Str) (nd n : Nat) (ks : List Str) (js : List Nat) : Prop :=
  (nd = 0 ∧ ∀ (kV doc pm : Value) (an : Option Addr) (cdv ct : Value) (us ws : List Value), us.length = n → ws.length = ks.length →
    bindArgs (PySem.W.fnOf x q (defArgs st) (defBody st) (defScope st) .none kV doc pm an cdv ct) ⟨us, ks.zip ws⟩ = pure (ps.zip (pick js (us ++ ws)))) ∨
  (nd ≠ 0 ∧ ∀ (T : Addr) (kV doc pm : Value) (an : Option Addr) (cdv ct : Value) (us its ws : List Value), us.length = n → its.length = nd → ws.length = ks.length →
    ∃ k, bindArgs (PySem.W.fnOf x q (defArgs st) (defBody st) (defScope st) (.ref T) kV doc pm an cdv ct) ⟨us, ks.zip ws⟩ = seqItems? (.ref T) >>= k ∧ k (some its.toArray) = pure (ps.zip (pick js (us ++ ws ++ its))))
theorem kbn {K : PySem.W.Frag} {x q : Str} {st : Stmt} {dvs : List V} {f : Addr} {fd : FuncData} {ps ks : List Str} {n : Nat} {js : List Nat} (F : FunD K x q (defArgs st) (defBody st) (defScope st) dvs [] f fd) (h : BindJ x q st ps dvs.length n ks js) :
    ∃ g, KBn K fd ps n ks g (fun vs zs => pick js (vs ++ zs ++ dvs)) := by
  rcases h with ⟨e, h⟩ | ⟨e, h⟩
  · have ed : dvs = [] := List.eq_nil_of_length_eq_zero e
    subst ed
    obtain ⟨kV, doc, pm, an, cdv, ct, rfl⟩ := FunD.noDef F
    refine ⟨fun us ws => pick js (us ++ ws), ⟨fun s us ws X l1 l2 => .of_eq (h kV doc pm an cdv ct us ws l1 l2), fun r1 r2 => ?_⟩⟩
    rw [List.append_nil]
    exact vals_pick (vals_app r1 r2) js
  · have hd : dvs ≠ [] := fun z => e (by rw [z]; rfl)
    obtain ⟨its, B⟩ := FunD.kbindsD F n ks (fun us its ws => pick js (us ++ ws ++ its)) hd (fun r1 r2 r3 => vals_pick (vals_app (vals_app r1 r3) r2) js) h
    exact ⟨_, B⟩
structure DfdM (K : PySem.W.Frag) (C m q : Str) (st : Stmt) (dvs : List V) : Prop where
  ex : ∃ fd, FunD K m q (defArgs st) (defBody st) (defScope st) dvs [] (He.ma K (He.ga K C) m) fd
  mt : Meth K (He.ga K C) m (He.ma K (He.ga K C) m)
structure HasM (P : Program) (w : World) (K : PySem.W.Frag) (mg : Str → Option Value) (base : Heap) (CX : CXT) (k : Nat) (C m q : Str) (st : Stmt) (dvs : List V) (ps : List Str) (sp : Sp) : Prop where
  ex : ∃ fd, FunD K m q (defArgs st) (defBody st) (defScope st) dvs [] (He.ma K (He.ga K C) m) fd ∧ FnG P w K mg base CX k (He.ma K (He.ga K C) m) fd ps sp
  mt : Meth K (He.ga K C) m (He.ma K (He.ga K C) m)
section
variable {P : Program} {w : World} {K : PySem.W.Frag} {mg : Str → Option Value} {base : Heap} {CX : CXT} {k j : Nat} {C m q : Str} {st : Stmt} {dvs : List V} {N ps : List Str} {sp sp' : Sp}
theorem DfdM.has (D : DfdM K C m q st dvs) (S : FnScope N ps (defScope st)) (len : ∀ vs H Q E, sp vs H Q E → vs.length = ps.length)
    (hbody : ∀ (cdv : Value) (A : Around) (outer : List Env) (s : Shared) (H : Hp) (vs : List V) (Q : VK) (E : XK), Room k (A.deeper (envOfC q (defScope st) s.heap.objs.size (He.ma K (He.ga K C) m) cdv)) → (A.deeper (envOfC q (defScope st) s.heap.objs.size (He.ma K (He.ga K C) m) cdv)).guards = some [] → sp vs H Q E →
      ∃ t, PSs (cxOf CX P w K mg base N q (defScope st) (He.ma K (He.ga K C) m) cdv A outer s H E) (defBody st) t ∧ t { nx := fun _ H' => Q .non H', rt := Q } (start N vs) H) :
    HasM P w K mg base CX (k + 1) C m q st dvs ps sp := by
  obtain ⟨fd, F⟩ := D.ex
  exact ⟨⟨fd, F, fnG_of F S len hbody⟩, D.mt⟩
end
structure ClsF (K : PySem.W.Frag) (mg : Str → Option Value) (C : Str) (fs : List Str) : Prop where
  glo : mg C = some (.ref (He.ga K C))
  cls : Cls K (He.ga K C)
  na : ∀ f ∈ fs, NoAttr K (He.ga K C) f
  mkr : Mk K (He.ga K C) (He.ma K (He.ga K C) "__init__")
  i1 : PySem.W.findIn K (.ref (He.ga K C)) "__class__" = some (some (.builtin "object.__class__"))
  i2 : PySem.W.specialIn K (.builtin "object.__class__") "__get__" = some (some (.builtin "getset_descriptor.__get__"))
  i3 : PySem.W.takesIn K (.builtin "object.__class__") = some true
  i4 : PySem.W.mroIn K (He.ga K C) (.type "object") = some true
  kt : PySem.W.kitOne K (.ref (He.ga K C)) (.ref (He.ga K C)) = some true
  kf : ∀ T ∈ ["NoneType", "bool", "int", "str", "list", "tuple", "dict"], PySem.W.kitOne K (.type T) (.ref (He.ga K C)) = some false
  kb : ∀ T ∈ ["int", "str", "list", "tuple", "dict", "bool"], PySem.W.kitOne K (.ref (He.ga K C)) (.type T) = some false
  ne : PySem.W.findIn K (.ref (He.ga K C)) "__ne__" = some (some (.builtin "object.__ne__"))
  fby : PySem.W.kitOne K (.type "bytes") (.ref (He.ga K C)) = some false
  bby : PySem.W.kitOne K (.ref (He.ga K C)) (.type "bytes") = some false
theorem clsB_ok {K : PySem.W.Frag} {h : Heap} {mg : Str → Option Value} {C : Str} {fs : List Str} (X : K.In h) (G : h.Ns mainGlobals mg) (c : clsB K C fs = true) : ClsF K mg C fs := by
  obtain ⟨c0, c⟩ := He.ba c
  obtain ⟨c1, c⟩ := He.ba c
  obtain ⟨c2, c⟩ := He.ba c
  obtain ⟨c3, c⟩ := He.ba c
  obtain ⟨c4, c⟩ := He.ba c
  obtain ⟨c5, c⟩ := He.ba c
  obtain ⟨c6, c⟩ := He.ba c
  obtain ⟨c7, c⟩ := He.ba c
  obtain ⟨c8, c⟩ := He.ba c
  obtain ⟨c9, c⟩ := He.ba c
  obtain ⟨c10, c⟩ := He.ba c
  obtain ⟨c11, c⟩ := He.ba c
  obtain ⟨c12, c13⟩ := He.ba c
  exact ⟨He.glo_ok X G c0, He.cls_ok c1, fun f hf => He.noat_ok (List.all_eq_true.mp c2 f hf), He.mkr_ok c3, He.eqO_ok c4, He.eqO_ok c5, of_decide_eq_true c6, of_decide_eq_true c7, of_decide_eq_true c8,
    fun T hT => of_decide_eq_true (List.all_eq_true.mp c9 T hT), fun T hT => of_decide_eq_true (List.all_eq_true.mp c10 T hT), He.eqO_ok c11, of_decide_eq_true c12, of_decide_eq_true c13⟩
theorem etupB_ok {K : PySem.W.Frag} {a : Addr} (h : etupB K a = true) (H : Hp) : SqT K H a [] := by
  unfold etupB at h
  cases q : K.lookup a with
  | none => rw [q] at h; cases h
  | some o =>
    obtain ⟨oc, od, dt, osl⟩ := o
    rw [q] at h
    cases oc with
    | type c =>
      cases dt with
      | seq its n =>
        obtain ⟨h1, h2⟩ := He.ba (show (decide (c = "tuple") && decide (its = #[])) = true from h)
        have e := of_decide_eq_true h2
        subst e
        exact .inr ⟨_, #[], n, q, congrArg Value.type (of_decide_eq_true h1), rfl, Nat.zero_le _, .nil⟩
      | _ => cases h
    | _ => cases dt <;> cases h
theorem ex_at {K : PySem.W.Frag} {ex : List (PySem.W.Frag → Bool)} (h : (ex.all fun e => e K) = true) (i : Nat) {e : PySem.W.Frag → Bool} (hi : ex[i]? = some e := by rfl) : e K = true := List.all_eq_true.mp h e (List.mem_of_getElem? hi)
theorem k_sfld {X : Cx} {o value : Expr} {ta tv : TE} {f : Str} {pos pos' : Pos} (K : PySem.W.Frag) (ha : PE X o ta) (hv : PE X value tv) (hs : swapsWith value (some (.Attribute o f pos')) pos.line X.env = pure false) (hK : X.K = K := by rfl) : PS X (.Assign [.Attribute o f pos'] value pos) (sFld K ta tv f) := by subst hK; exact ps_fld ha hv hs
def MkG (C : Addr) (sp : Sp) (js : List Nat) (dvs vs zs : List V) (H : Hp) (Q : VK) (E : XK) : Prop := ∀ x dx, H x = none → H dx = none → dx ≠ x → sp (pick js ((.ref x :: vs) ++ zs ++ dvs)) (upd (upd H dx (.own x)) x (.ins C dx [])) (fun v H3 => v = .non ∧ Q (.ref x) H3) E
def tMkN (C : Addr) (sp : Sp) (n k : Nat) (js : List Nat) (dvs : List V) (E : XK) (t tk : TA) : TE := fun σ H Q => t σ H fun vs H1 => tk σ H1 fun zs H2 => vs.length = n ∧ zs.length = k ∧ MkG C sp js dvs vs zs H2 Q E
section
variable {X : Cx} {CX : CXT} {k n : Nat} {f : Addr} {fd : FuncData} {C m q : Str} {st : Stmt} {dvs : List V} {ps ks : List Str} {js : List Nat} {sp : Sp} {E : XK} {p pos apos : Pos} {e o : Expr} {es : List Expr} {kws : List Keyword} {ta : TE} {t tk : TA} {fs : List Str} {g : List Value → List Value → List Value} {gV : List V → List V → List V}
theorem run_makeG {pins : List (Addr × Obj)} {σ : L2.St} {H : Hp} {s : Shared} {Q : VK} {us ws : List Value} {vs zs : List V} {C : Addr} (M : Mk X.K C f) (F : FnG X.prog X.w X.K X.mg X.base CX k f fd ps sp) (hr : Room (k + 1) X.A) (hg : X.A.guards = some []) (hb : KBn X.K fd ps (n + 1) ks g gV)
    (hx : Passes CX X E) (I : Inv X pins σ H s) (r : Vals vs us) (rz : Vals zs ws) (l1 : vs.length = n) (l2 : zs.length = ks.length)
    (h : ∀ x dx, H x = none → H dx = none → dx ≠ x → sp (gV (.ref x :: vs) zs) (upd (upd H dx (.own x)) x (.ins C dx [])) (fun v H2 => v = .non ∧ Q (.ref x) H2) E) :
    wpAny (model X.prog X.w) X.A (call (.ref C) us (ks.zip ws)) (EP X pins σ Q) X.xe s := by
  have hq := h (s.heap.objs.size + 1) s.heap.objs.size (I.hok.fresh (Nat.le_succ _)) (I.hok.fresh (Nat.le_refl _)) (Nat.ne_of_lt (Nat.lt_succ_self _))
  have I2 := Inv.made (C := C) I
  have r1 : Vals (V.ref (s.heap.objs.size + 1) :: vs) (Value.ref (s.heap.objs.size + 1) :: us) := .cons rfl r
  have r2 := hb.rel r1 rz
  have e1 : (Value.ref (s.heap.objs.size + 1) :: us).length = n + 1 := r1.length.symm.trans (congrArg Nat.succ l1)
  have e2 : ws.length = ks.length := rz.length.symm.trans l2
  refine wpAny_call (make_map (f := f) I.kIn M.makes M.init (beq_iff_eq.mp M.fn) (codeAny_mono (F.run _ X.stack _ _ ⟨Value.ref (s.heap.objs.size + 1) :: us, ks.zip ws⟩ (g (Value.ref (s.heap.objs.size + 1) :: us) ws) _ _ E (hr.make C us (ks.zip ws)) hg
    (I2.env0.make C us (ks.zip ws)) (hb.to _ (Value.ref (s.heap.objs.size + 1) :: us) ws I2.kIn e1 e2) r2 hq) fun r s' hq' => ?_))
  cases r with
  | error e => exact hx pins σ _ _ e s' I2 hq'
  | ok fl =>
    cases fl with
    | ret u =>
      obtain ⟨v, H', I3, rv, ev, q3⟩ := I2.after hq'
      subst ev
      exact ⟨rv, ⟨V.ref (s.heap.objs.size + 1), H', I3, rfl, q3⟩⟩
    | next => exact False.elim hq'
    | brk => exact False.elim hq'
    | cont => exact False.elim hq'
theorem pe_mk (c : ClsF X.K X.mg C fs) (F : HasM X.prog X.w X.K X.mg X.base CX k C "__init__" q st dvs ps sp) (hb : BindJ "__init__" q st ps dvs.length (n + 1) [] js) (hr : Room (k + 1) X.A) (hg : X.A.guards = some []) (hgl : Gl X C) (hx : Passes CX X E)
    (ha : PA X (e :: es) t) (hdb : (C == ("__debug__" : Str)) = false := by decide) (he : starEach (e :: es) X.env = (false, eval e X.env) :: starEach es X.env := by rfl) (hpl : (backTo pos (starEach es X.env)).any (·.1) = false := by rfl) :
    PE X (.Call (.Name C p) (e :: es) [] pos) (tMkN (He.ga X.K C) sp n 0 js dvs E t tNil) := by
  obtain ⟨fd, FD, G⟩ := F.ex
  obtain ⟨g, B⟩ := kbn FD hb
  refine ⟨fun pins s σ H Q I h => ?_⟩
  refine wpAny_Call_Name_kw (ld_glob I hgl c.glo ?_ hdb)
  refine PySem.W.callWith_K (h₀ := X.base) I.ok.mod.kin c.mkr.kp (thn (ha.run pos pins s σ H _ I h) fun us s1 ⟨vs, H1, I1, r, l1, l2, q2⟩ => ⟨I1.kIn, ?_⟩) he hpl
  exact run_makeG (ks := []) (ws := []) (zs := []) c.mkr G hr hg B hx I1 r .nil l1 rfl q2
end
def LenC (n k : Nat) (vs zs : List V) (P : Prop) : Prop := vs.length = n ∧ zs.length = k ∧ P
def FldC (K : PySem.W.Frag) (f : Str) (x : V) (H : Hp) (Q : VK) : Prop := ∃ a C dx fs v, x = .ref a ∧ H a = some (.ins C dx fs) ∧ Cls K C ∧ NoAttr K C f ∧ fs.lookup f = some v ∧ Q v H
def SetC (K : PySem.W.Frag) (f : Str) (x y : V) (H : Hp) (k : Hp → Prop) : Prop := ∃ a C dx fs, x = .ref a ∧ H a = some (.ins C dx fs) ∧ Cls K C ∧ NoAttr K C f ∧ fs.length < 1000 ∧ k (upd H a (.ins C dx (putF f y fs)))
section
variable {K : PySem.W.Frag} {mg : Str → Option Value} {C f m : Str} {fs : List Str} {σ : L2.St} {H : Hp} {Q : VK} {ta tv : TE} {t tk : TA} {a dx : Addr} {fl : List (Str × V)} {v y : V} {De : Ends}
theorem w_fldN (h : ta σ H fun x H1 => FldC K f x H1 Q) : tFld K ta f σ H Q := h
instance i_w_fldN : StepX (tFld K ta f σ H Q) (ta σ H fun x H1 => FldC K f x H1 Q) := ⟨fun h => w_fldN h⟩
theorem w_fldc (c : ClsF K mg C fs) (hf : f ∈ fs) (e : H a = some (.ins (He.ga K C) dx fl)) (l : fl.lookup f = some v) (h : Q v H) : FldC K f (.ref a) H Q := ⟨a, _, dx, fl, v, rfl, e, c.cls, c.na f hf, l, h⟩
theorem w_sfld (h : tv σ H fun y H1 => ta σ H1 fun x H2 => SetC K f x y H2 fun H3 => De.nx σ H3) : sFld K ta tv f De σ H := h
instance i_w_sfld : StepX (sFld K ta tv f De σ H) (tv σ H fun y H1 => ta σ H1 fun x H2 => SetC K f x y H2 fun H3 => De.nx σ H3) := ⟨fun h => w_sfld h⟩
theorem w_setc (c : ClsF K mg C fs) (hf : f ∈ fs) {k : Hp → Prop} (e : H a = some (.ins (He.ga K C) dx fl)) (l : fl.length < 1000) (h : k (upd H a (.ins (He.ga K C) dx (putF f y fl)))) : SetC K f (.ref a) y H k := ⟨a, _, dx, fl, rfl, e, c.cls, c.na f hf, l, h⟩
theorem w_lenC {n k : Nat} {vs zs : List V} {P : Prop} (h1 : vs.length = n) (h2 : zs.length = k) (h : P) : LenC n k vs zs P := ⟨h1, h2, h⟩
theorem w_mkN {C : Addr} {sp : Sp} {n k : Nat} {js : List Nat} {dvs : List V} {E : XK} (h : t σ H fun vs H1 => tk σ H1 fun zs H2 => LenC n k vs zs (MkG C sp js dvs vs zs H2 Q E)) : tMkN C sp n k js dvs E t tk σ H Q := h
instance i_w_mkN {C : Addr} {sp : Sp} {n k : Nat} {js : List Nat} {dvs : List V} {E : XK} : StepX (tMkN C sp n k js dvs E t tk σ H Q) (t σ H fun vs H1 => tk σ H1 fun zs H2 => LenC n k vs zs (MkG C sp js dvs vs zs H2 Q E)) := ⟨fun h => w_mkN h⟩
theorem w_isiT (c : ClsF K mg C fs) (e : H a = some (.ins (He.ga K C) dx fl)) (h : Q (.bl true) H) : rIsi K [.ref a, .ref (He.ga K C)] H Q := ⟨_, _, _, _, true, rfl, .own _, .base (.ins e c.cls c.i1 c.i2 c.i3 c.i4), c.kt, h⟩
end
end TP
namespace TP
open PySem PySem.Spec PyProof.Rows L2
theorem minL_spec : ∀ {l : List Int}, l ≠ [] → minL l ∈ l ∧ ∀ y ∈ l, minL l ≤ y
  | [], h => absurd rfl h
  | [a], _ => ⟨List.mem_singleton.mpr rfl, fun y hy => by rw [List.mem_singleton.mp hy]; exact Int.le_refl _⟩
  | a :: b :: r, _ => by
    obtain ⟨h1, h2⟩ := minL_spec (l := b :: r) nofun
    show (if a ≤ minL (b :: r) then a else minL (b :: r)) ∈ a :: b :: r ∧ ∀ y ∈ a :: b :: r, (if a ≤ minL (b :: r) then a else minL (b :: r)) ≤ y
    by_cases z : a ≤ minL (b :: r)
    · rw [if_pos z]
      refine ⟨List.mem_cons_self, fun y hy => ?_⟩
      rcases List.mem_cons.mp hy with rfl | hy
      · exact Int.le_refl _
      · exact Int.le_trans z (h2 y hy)
    · rw [if_neg z]
      refine ⟨List.mem_cons_of_mem _ h1, fun y hy => ?_⟩
      rcases List.mem_cons.mp hy with rfl | hy
      · omega
      · exact h2 y hy
theorem minL_eq {l : List Int} {m : Int} (h1 : m ∈ l) (h2 : ∀ y ∈ l, m ≤ y) : minL l = m := by
  obtain ⟨h3, h4⟩ := minL_spec (l := l) (List.ne_nil_of_mem h1)
  exact Int.le_antisymm (h4 m h1) (h2 _ h3)
def DInC (x y : V) (H : Hp) (k : Bool → Prop) : Prop := ∃ a o, x = .ref a ∧ DGet H a y o ∧ k o.isSome
def OnK (R : It → Hp → Prop) (x : V) (H : Hp) : Prop := ∃ d o, x = .ref d ∧ ((∃ kvs, H d = some (.frz o (.dK kvs)) ∧ R (Itk d o kvs) H) ∨ ∃ kvs, H d = some (.frz o (.dT kvs)) ∧ R (Itkt d o kvs) H)
def DcOk (J : It) (g : TG) (tt : TT) (tk tv : TE) (vs : List Nat) (σ : L2.St) (H1 : Hp) (D : Addr) (Q : VK) : Prop := ∃ W : Nat → Nat → Hp → Prop, (∃ m, W 0 m (upd H1 D (.dK []))) ∧ ∀ i m H, W i m H →
  (J.stop i H ∧ Q (.ref D) H) ∨ (J.go i H ∧ ∃ Nx : Hp → Prop, (∀ H', Nx H' → ∃ m', m' < m ∧ W (i + 1) m' H') ∧ ∀ x H', J.yld i H x H' → g x (wipe σ vs) H' fun σ2 H2 => wipe σ2 vs = wipe σ vs ∧ tt σ2 H2 fun b H3 =>
    if b = true then tk σ2 H3 fun y H4 => tv σ2 H4 fun z H5 => ∃ kvs k, y = kV k ∧ H5 D = some (.dK kvs) ∧ kvs.length < sizeLine ∧ Nx (upd H5 D (.dK (putK kvs k z))) else Nx H3)
section
variable {K : PySem.W.Frag} {σ : L2.St} {H H1 : Hp} {Q : VK} {te td ty tx : TE} {a d : Addr} {kvs : List (Key × V)} {v : V} {R : It → Hp → Prop} {wi : TI} {g : TG} {tt : TT} {tk tv : TE} {vs : List Nat} {t : TE} {ts tb : TS} {De : Ends} {od : Obj} {D : Addr} {c : TT}
theorem w_din (h : ty σ H fun y H1 => td σ H1 fun x H2 => DInC x y H2 fun b => Q (.bl b) H2) : tDIn ty td σ H Q := by
  show ty σ H _
  exact h
instance i_w_din : StepX (tDIn ty td σ H Q) (ty σ H fun y H1 => td σ H1 fun x H2 => DInC x y H2 fun b => Q (.bl b) H2) := ⟨fun h => w_din h⟩
theorem w_dnotin (h : ty σ H fun y H1 => td σ H1 fun x H2 => DInC x y H2 fun b => Q (.bl (!b)) H2) : tDNotIn ty td σ H Q := by
  show ty σ H _
  exact h
instance i_w_dnotin : StepX (tDNotIn ty td σ H Q) (ty σ H fun y H1 => td σ H1 fun x H2 => DInC x y H2 fun b => Q (.bl (!b)) H2) := ⟨fun h => w_dnotin h⟩
theorem w_iKeys (h : td σ H (OnK R)) : iKeys td σ H R := h
instance i_w_iKeys : StepX (iKeys td σ H R) (td σ H (OnK R)) := ⟨fun h => w_iKeys h⟩
theorem w_dc (h : wi σ H fun J H1 => ∀ D, H1 D = none → DcOk J g tt tk tv vs σ H1 D Q) : tDc wi g tt tk tv vs σ H Q := h
instance i_w_dc : StepX (tDc wi g tt tk tv vs σ H Q) (wi σ H fun J H1 => ∀ D, H1 D = none → DcOk J g tt tk tv vs σ H1 D Q) := ⟨fun h => w_dc h⟩
theorem w_min {ns : List Int} (hs : SqL K H a (ns.map V.int)) (hl : ns ≠ []) (h : Q (.int (minL ns)) H) : rMin K [.ref a] H Q := ⟨a, ns, rfl, hs, List.length_pos_iff.mpr hl, fun m h1 h2 => by rw [minL_eq h1 h2] at h; exact h⟩
end
structure TabOk (t : Bag) : Prop where
  nd : (keys t).Nodup
  pos : ∀ p ∈ t, 1 ≤ p.2
theorem BagOk.tab {ps : Bag} (h : BagOk ps) : TabOk ps := ⟨asc_nodup h.asc, h.pos⟩
def lowT (t : Bag) (s : Int) : Bag := t.filterMap fun p => if s < p.2 then some (p.1, p.2 - s) else none
theorem lowT_cons (p : Str × Int) (r : Bag) (s : Int) : lowT (p :: r) s = (if s < p.2 then [(p.1, p.2 - s)] else []) ++ lowT r s := by
  unfold lowT
  rw [List.filterMap_cons]
  by_cases z : s < p.2
  · rw [if_pos z, if_pos z]; rfl
  · rw [if_neg z, if_neg z]; rfl
theorem lowT_mem {t : Bag} {s : Int} {p : Str × Int} (h : p ∈ lowT t s) : (p.1, p.2 + s) ∈ t ∧ 0 < p.2 := by
  unfold lowT at h
  obtain ⟨q, hq, e⟩ := List.mem_filterMap.mp h
  by_cases z : s < q.2
  · rw [if_pos z] at e
    cases e
    have : (q.1, q.2 - s + s) = q := Prod.ext rfl (by show q.2 - s + s = q.2; omega)
    exact ⟨by rw [this]; exact hq, by show 0 < q.2 - s; omega⟩
  · rw [if_neg z] at e; cases e
theorem lowT_keys {t : Bag} {s : Int} {n : Str} (h : n ∈ keys (lowT t s)) : n ∈ keys t := by
  obtain ⟨p, hp, rfl⟩ := List.mem_map.mp h
  exact List.mem_map.mpr ⟨_, (lowT_mem hp).1, rfl⟩
theorem lowT_nodup : ∀ {t : Bag} {s : Int}, (keys t).Nodup → (keys (lowT t s)).Nodup
  | [], _, h => h
  | p :: r, s, h => by
    have h' := List.nodup_cons.mp (show (p.1 :: keys r).Nodup from h)
    rw [lowT_cons]
    have ih := lowT_nodup (s := s) h'.2
    split
    · exact List.nodup_cons.mpr ⟨fun z => h'.1 (lowT_keys z), ih⟩
    · exact ih
theorem TabOk.low {t : Bag} (h : TabOk t) (s : Int) : TabOk (lowT t s) := ⟨lowT_nodup h.nd, fun p hp => by have := (lowT_mem hp).2; omega⟩
end TP
namespace TP
open PySem PySem.Spec PyProof.Rows L2
def betD (d : PyData) (i j : Int) : Bool := match d with
  | .int n => decide (i ≤ n) && decide (n ≤ j)
  | _ => false
abbrev sumF : List Str := ["capacity", "counts", "__bool__"]
structure SumV (c : Int) (ps : Bag) : Prop where
  c1 : 1 ≤ c
  c8 : c ≤ 8
  ok : BagOk ps
  len : (ps.length : Int) ≤ c
def SumO (K : PySem.W.Frag) (H : Hp) (v : V) (c : Int) (ps : Bag) : Prop := ∃ a dx b, v = .ref a ∧ H a = some (.ins (He.ga K "Summary") dx [("capacity", .int c), ("counts", b)]) ∧ Dp K H b (bagD ps)
section
variable {K : PySem.W.Frag} {mg : Str → Option Value} {H H' : Hp} {Q : VK} {v : V} {c : Int} {ps : Bag}
theorem sum_same (s : Same H H') (h : SumO K H v c ps) : SumO K H' v c ps := by
  obtain ⟨a, dx, b, rfl, h1, h2⟩ := h
  exact ⟨a, dx, b, rfl, s _ _ h1, dp_same s h2⟩
theorem w_sumCap (cl : ClsF K mg "Summary" sumF) (h : SumO K H v c ps) (q : Q (.int c) H) : FldC K "capacity" v H Q := by
  obtain ⟨a, dx, b, rfl, h1, h2⟩ := h
  exact w_fldc cl (by decide) h1 rfl q
theorem w_sumCnt (cl : ClsF K mg "Summary" sumF) (h : SumO K H v c ps) (q : ∀ b, Dp K H b (bagD ps) → Q b H) : FldC K "counts" v H Q := by
  obtain ⟨a, dx, b, rfl, h1, h2⟩ := h
  exact w_fldc cl (by decide) h1 (by rfl) (q b h2)
theorem w_isSum (cl : ClsF K mg "Summary" sumF) (h : SumO K H v c ps) (q : Q (.bl true) H) : rIsi K [v, .ref (He.ga K "Summary")] H Q := by
  obtain ⟨a, dx, b, rfl, h1, h2⟩ := h
  exact w_isiT cl h1 q
end
theorem WordsOk.take {ws : List Str} {n : Nat} (h : WordsOk ws n) (k : Nat) : WordsOk (ws.take k) (ws.take k).length := ⟨rfl, h.nd.sublist (List.take_sublist k ws), fun w hw => h.nam w (List.mem_of_mem_take hw)⟩
theorem WordsOk.drop {ws : List Str} {n : Nat} (h : WordsOk ws n) (k : Nat) : WordsOk (ws.drop k) (ws.drop k).length := ⟨rfl, h.nd.sublist (List.drop_sublist k ws), fun w hw => h.nam w (List.mem_of_mem_drop hw)⟩
def cutL {α : Type} (xs : List α) (lo hi : Option Int) : List α := (xs.drop (HT.sIx xs.length 0 lo)).take (HT.sIx xs.length xs.length hi - HT.sIx xs.length 0 lo)
theorem cutL_hi {α : Type} {xs : List α} {k : Nat} : cutL xs none (some (k : Int)) = xs.take k := by
  unfold cutL
  rw [HT.sIx_none, HT.sIx_nat]
  simp
theorem cutL_lo {α : Type} {xs : List α} {k : Nat} : cutL xs (some (k : Int)) none = xs.drop k := by
  unfold cutL
  rw [HT.sIx_none, HT.sIx_nat]
  by_cases h : k ≤ xs.length
  · rw [Nat.min_eq_left h, List.take_of_length_le (by simp)]
  · have h' : xs.length ≤ k := by omega
    rw [Nat.min_eq_right h', List.drop_of_length_le (Nat.le_refl _), List.drop_of_length_le h']
    simp
theorem w_slD {K : PySem.W.Frag} {H : Hp} {Q : VK} {v : V} {ds : List PyData} {lo hi : Option Int} (h : Dp K H v (.tuple ds)) (k : ∀ v' H', Same H H' → Dp K H' v' (.tuple (cutL ds lo hi)) → Q v' H') : rSlA K v lo hi H Q := by
  obtain ⟨a, xs, rfl, hs, hx⟩ := dp_tup_inv h
  have hl := dps_len hx
  refine ⟨a, xs, rfl, hs, fun e => ?_, fun _ p hp => ?_⟩
  · refine k _ _ (Same.refl _) ?_
    have : cutL ds lo hi = ds := by
      unfold cutL
      rw [← hl, e.1, e.2, hl]
      simp
    rw [this]; exact h
  · refine k _ _ (same_new hp) (.tup (SqT.of upd_same) (dps_same (same_new hp) ?_))
    unfold cutL cutV
    rw [hl]
    exact dps_take _ (dps_drop _ hx)
theorem BagOk.take {ps : Bag} (h : BagOk ps) (k : Nat) : BagOk (ps.take k) := ⟨h.asc.sublist (List.take_sublist k ps), fun p hp => h.nam p (List.mem_of_mem_take hp), fun p hp => h.pos p (List.mem_of_mem_take hp)⟩
theorem BagOk.drop {ps : Bag} (h : BagOk ps) (k : Nat) : BagOk (ps.drop k) := ⟨h.asc.sublist (List.drop_sublist k ps), fun p hp => h.nam p (List.mem_of_mem_drop hp), fun p hp => h.pos p (List.mem_of_mem_drop hp)⟩
end TP
namespace TP
open PySem PySem.Spec PyProof.Rows L2
section
variable {K : PySem.W.Frag} {σ : L2.St} {H : Hp} {Q : VK} {t tk : TA} {a : Addr}
theorem w_ckw {r : List V → List V → Hp → VK → Prop} (h : t σ H fun vs H1 => tk σ H1 fun zs H2 => r vs zs H2 Q) : tCKw r t tk σ H Q := h
instance i_w_ckw {r : List V → List V → Hp → VK → Prop} : StepX (tCKw r t tk σ H Q) (t σ H fun vs H1 => tk σ H1 fun zs H2 => r vs zs H2 Q) := ⟨fun h => w_ckw h⟩
end
end TP
namespace TP
open PySem PySem.Spec PyProof.Rows L2
section
variable {K : PySem.W.Frag} {H : Hp} {Q : VK} {a l : Addr} {x : Str} {ws : List Str}
theorem w_intB {k : Bool} (h : Q (.int (if k then 1 else 0)) H) : rInt1 [.bl k] H Q := .inr ⟨k, rfl, h⟩
instance i_w_intB {k : Bool} : StepX (rInt1 [.bl k] H Q) (Q (.int (if k then 1 else 0)) H) := ⟨fun h => w_intB h⟩
theorem w_rep {xs : List V} {k : Int} (h1 : H l = some (.lst xs)) (hk : -1000 ≤ k ∧ k ≤ 1000) (hz : xs.length * k.toNat ≤ 100000) (h : ∀ p, H p = none → Q (.ref p) (upd H p (.lst (List.replicate k.toNat xs).flatten))) : rRep (.ref l) (.int k) H Q := ⟨l, k, xs, rfl, rfl, h1, by omega, by omega, sz_le hz, h⟩
end
end TP
namespace TP
open PySem PySem.Spec PyProof.Rows L2
section
variable {X : Cx} {CX : CXT} {k n : Nat} {f : Addr} {fd : FuncData} {C m q : Str} {st : Stmt} {ps : List Str} {js : List Nat} {sp : Sp} {E : XK} {fs : List Str} {g : List Value → List Value → List Value} {gV : List V → List V → List V}
theorem run_at {A' : Around} {pins : List (Addr × Obj)} {σ : L2.St} {H : Hp} {s : Shared} {Q : VK} {us : List Value} {vs : List V} (F : FnG X.prog X.w X.K X.mg X.base CX k f fd ps sp) (hb : KBn X.K fd ps n [] g gV) (hfr : A'.frames = X.A.frames) (hr : Room k A') (hg : A'.guards = some []) (hx : Passes CX X E)
    (I : Inv X pins σ H s) (r : Vals vs us) (l1 : vs.length = n) (h : sp (gV vs []) H Q E) : wpAny (model X.prog X.w) A' (call (.ref f) us) (EP X pins σ Q) X.xe s := by
  have e0 : Env0 X.prog X.w X.K X.mg X.base A' X.stack s H := by
    have e := I.env0
    exact ⟨by rw [hfr]; exact e.frames, e.mod, e.bs, e.bsz, e.funs, e.frf, e.hok, e.bare⟩
  have b := hb.to s us [] I.kIn (by rw [← r.length]; exact l1) rfl
  refine wpAny_call (codeAny_mono (F.run A' X.stack s H ⟨us, []⟩ (g us []) (gV vs []) Q E hr hg e0 b (hb.rel r .nil) h) fun z s' hq => ?_)
  cases z with
  | error e => exact hx pins σ H s e s' I hq
  | ok fl =>
    cases fl with
    | ret u => exact I.after hq
    | next => exact hq.elim
    | brk => exact hq.elim
    | cont => exact hq.elim
def rStrO (C : Addr) (sp : Sp) (js : List Nat) (E : XK) : List V → Hp → VK → Prop := fun xs H Q => ∃ a dx fl, xs = [.ref a] ∧ H a = some (.ins C dx fl) ∧ sp (pick js ([.ref a] ++ [] ++ [])) H (fun v H' => ∃ y : Str, v = .str y ∧ Q (.str y) H') E
theorem k_strO (F : HasM X.prog X.w X.K X.mg X.base CX k C "__str__" q st [] ps sp) (hb : BindJ "__str__" q st ps 0 1 [] js) (hr : Room (k + 2) X.A) (hg : X.A.guards = some []) (hx : Passes CX X E) : CallR X (.type "str") (rStrO (He.ga X.K C) sp js E) := by
  intro pins s σ H xs us Q I r h
  obtain ⟨a, dx, fl, rfl, ha, hq⟩ := h
  obtain ⟨u, rfl, ru⟩ := vals1 r
  have eu : u = .ref a := ru
  subst eu
  obtain ⟨fd, FD, G⟩ := F.ex
  obtain ⟨g, B⟩ := kbn FD hb
  obtain ⟨mA, J, _⟩ := ins_get I.hok ha
  obtain ⟨od, J, _⟩ := J.look
  refine PySem.W.kso_call (by have := hr.in1.in1.un; omega) I.kIn J F.mt.at_ F.mt.fn ?_
  refine wpAny_mono (run_at (A' := X.A.in1.in1) (vs := [.ref a]) G B rfl hr.in1.in1 hg hx I (.cons rfl .nil) rfl hq) (fun u s' q => ?_) fun _ _ x => x
  obtain ⟨v, H', I', rv, y, rfl, q⟩ := q
  obtain ⟨t, rfl⟩ := rv
  exact ⟨.str y, H', I', ⟨_, rfl⟩, q⟩
end
section
variable {X : Cx} {CX : CXT} {k n : Nat} {C q : Str} {st : Stmt} {ps : List Str} {js : List Nat} {sp : Sp} {E : XK} {fs : List Str} (K : PySem.W.Frag)
theorem s_str (F : HasM X.prog X.w K X.mg X.base CX k C "__str__" q st [] ps sp) (hb : BindJ "__str__" q st ps 0 1 [] js) (hr : Room (k + 2) X.A) (hg : X.A.guards = some []) (hx : Passes CX X E) (hK : X.K = K := by rfl) : CallR X (.type "str") (rStrO (He.ga K C) sp js E) := by subst hK; exact k_strO F hb hr hg hx
end
section
variable {K : PySem.W.Frag} {H : Hp} {Q : VK} {v w : V} {c d : Int} {ps qs : Bag} {sp : Sp} {js : List Nat} {E : XK}
theorem w_strSum (h : SumO K H v c ps) (q : sp (pick js ([v] ++ [] ++ [])) H (fun v H' => ∃ y : Str, v = .str y ∧ Q (.str y) H') E) : rStrO (He.ga K "Summary") sp js E [v] H Q := by
  obtain ⟨a, dx, b, rfl, h1, h2⟩ := h
  exact ⟨a, dx, _, rfl, h1, q⟩
end
end TP
namespace TP
open PySem PySem.Spec PyProof.Rows L2
def intS (i : Int) : Str := Str.ofString (toString i)
def ptS (p : Str × Int) : Str := p.1 ++ (":" : Str) ++ intS p.2
def cText (ps : Bag) : Str := if ps = [] then "-" else Txt.join " " (ps.map ptS)
theorem empty_app (x : Str) : Str.empty ++ x = x := str_ext (by rw [app_list]; rfl)
theorem app_len (a b : Str) : (a ++ b).length = a.length + b.length := PySem.Str.length_append a b
theorem intS_len {i : Int} (h0 : 0 ≤ i) (h1 : i ≤ 10 ^ 100) : (intS i).length ≤ 1921 := int_text_len_1921 (log2_le i h0 h1)
theorem ptS_len {p : Str × Int} (h : isName p.1 = true) (h0 : 0 ≤ p.2) (h1 : p.2 ≤ 10 ^ 100) : 1 ≤ (ptS p).length ∧ (ptS p).length ≤ 1931 := by
  unfold ptS
  rw [app_len, app_len]
  have := intS_len h0 h1
  have := (isName_len h).2
  have e : Str.length (":" : Str) = 1 := by decide +kernel
  omega
theorem parts_len {ps : Bag} (h : BagS ps) : ((ps.map ptS).map (·.length)).sum + (ps.map ptS).length * Str.length (" " : Str) ≤ 1932 * ps.length := by
  have e : Str.length (" " : Str) = 1 := by decide +kernel
  rw [e]
  induction ps with
  | nil => simp
  | cons p r ih =>
    obtain ⟨h1, h2, h3⟩ := h p List.mem_cons_self
    have h4 := (ptS_len h1 h2 h3).2
    have h5 := ih fun q hq => h q (List.mem_cons_of_mem _ hq)
    simp only [List.map_cons, List.sum_cons, List.length_cons] at h5 ⊢
    omega
theorem join_ne {ps : Bag} (h : BagS ps) (h0 : ps ≠ []) : 1 ≤ (Txt.join (" " : Str) (ps.map ptS)).length := by
  cases ps with
  | nil => exact absurd rfl h0
  | cons p r =>
    obtain ⟨h1, h2, h3⟩ := h p List.mem_cons_self
    have h4 := (ptS_len h1 h2 h3).1
    rw [txt_join_eq]
    cases r with
    | nil => exact h4
    | cons q r =>
      show 1 ≤ (ptS p ++ (" " : Str) ++ Str.join (" " : Str) (ptS q :: r.map ptS)).length
      rw [app_len, app_len]
      omega
theorem join_len {ps : Bag} (h : BagS ps) : (Txt.join (" " : Str) (ps.map ptS)).length ≤ 1932 * ps.length := by
  rw [txt_join_eq]
  exact Nat.le_trans (StrLaws.join_length_le _ _) (parts_len h)
theorem cText_len {ps : Bag} (h : BagS ps) : (cText ps).length ≤ 1932 * ps.length + 1 := by
  unfold cText
  split
  · have : Str.length ("-" : Str) = 1 := by decide +kernel
    omega
  · have := join_len h; omega
def FmtC (x : V) (H : Hp) (Q : VK) : Prop := (∃ y : Str, x = .str y ∧ y.length ≤ sizeLine ∧ Q (.str y) H) ∨ ∃ i : Int, x = .int i ∧ i.natAbs.log2 < 1920 ∧ Q (.str (toString i)) H
def JsC (ts : List TE) (acc : Str) (σ : L2.St) (Q : Str → Hp → Prop) (x : V) (H : Hp) : Prop := ∃ y : Str, x = .str y ∧ (acc ++ y).length ≤ sizeLine ∧ tJs ts (acc ++ y) σ H Q
def tJoined (ts : List TE) : TE := fun σ H Q => tJs ts Str.empty σ H fun out H1 => Q (.str out) H1
theorem k_joined {X : Cx} {v1 v2 : Expr} {rest : List Expr} {ts : List TE} {pos : Pos} (h : PJ X (v1 :: v2 :: rest) ts) : PE X (.JoinedStr (v1 :: v2 :: rest) pos) (tJoined ts) := pe_joined h
def rStrS : List V → Hp → VK → Prop := fun xs H Q => ∃ a, xs = [.str a] ∧ Q (.str a) H
theorem c_strS {X : Cx} : CallR X (.type "str") rStrS := SkE.call_str_str
def OrC (K : PySem.W.Frag) (tb : TE) (σ : L2.St) (Q : VK) (x : V) (H : Hp) : Prop := ∃ k, TruV K x H k ∧ if k = true then Q x H else tb σ H Q
def AndC (K : PySem.W.Frag) (tb : TE) (σ : L2.St) (Q : VK) (x : V) (H : Hp) : Prop := ∃ k, TruV K x H k ∧ if k = true then tb σ H Q else Q x H
section
variable {K : PySem.W.Frag} {σ : L2.St} {H : Hp} {Q : VK} {QS : Str → Hp → Prop} {te ta tb : TE} {ts : List TE} {acc y : Str} {i : Int}
theorem w_neBl {a b : Bool} (h : Q (.bl (!decide (a = b))) H) : rNe (.bl a) (.bl b) H Q := by
  refine ⟨rfl, ?_⟩
  have e : decide (V.bl a = V.bl b) = decide (a = b) := by
    by_cases z : a = b
    · subst z; simp
    · rw [decide_eq_false z, decide_eq_false fun q => z (V.bl.inj q)]
  rw [e]; exact h
instance i_w_neBl {a b : Bool} : StepX (rNe (.bl a) (.bl b) H Q) (Q (.bl (!decide (a = b))) H) := ⟨fun h => w_neBl h⟩
theorem w_eqBl {a b : Bool} (h : Q (.bl (decide (a = b))) H) : rEq (.bl a) (.bl b) H Q := by
  refine ⟨rfl, ?_⟩
  have e : decide (V.bl a = V.bl b) = decide (a = b) := by
    by_cases z : a = b
    · subst z; simp
    · rw [decide_eq_false z, decide_eq_false fun q => z (V.bl.inj q)]
  rw [e]; exact h
instance i_w_eqBl {a b : Bool} : StepX (rEq (.bl a) (.bl b) H Q) (Q (.bl (decide (a = b))) H) := ⟨fun h => w_eqBl h⟩
theorem w_fmt (h : te σ H fun x H1 => FmtC x H1 Q) : tFmt te σ H Q := h
instance i_w_fmt : StepX (tFmt te σ H Q) (te σ H fun x H1 => FmtC x H1 Q) := ⟨fun h => w_fmt h⟩
theorem w_fmtS (hz : y.length ≤ 16777216) (h : Q (.str y) H) : FmtC (.str y) H Q := .inl ⟨y, rfl, by rw [sizeLine_eq]; exact hz, h⟩
theorem w_fmtI (h0 : 0 ≤ i) (h1 : i ≤ 10 ^ 100) (h : Q (.str (intS i)) H) : FmtC (.int i) H Q := .inr ⟨i, rfl, log2_le i h0 h1, h⟩
theorem w_joined (h : tJs ts Str.empty σ H fun out H1 => Q (.str out) H1) : tJoined ts σ H Q := h
instance i_w_joined : StepX (tJoined ts σ H Q) (tJs ts Str.empty σ H fun out H1 => Q (.str out) H1) := ⟨fun h => w_joined h⟩
theorem w_jcons (h : te σ H fun x H1 => JsC ts acc σ QS x H1) : tJs (te :: ts) acc σ H QS := h
instance i_w_jcons : StepX (tJs (te :: ts) acc σ H QS) (te σ H fun x H1 => JsC ts acc σ QS x H1) := ⟨fun h => w_jcons h⟩
theorem w_jnil (h : QS acc H) : tJs [] acc σ H QS := h
instance i_w_jnil : StepX (tJs [] acc σ H QS) (QS acc H) := ⟨fun h => w_jnil h⟩
theorem w_jsc (hz : (acc ++ y).length ≤ 16777216) (h : tJs ts (acc ++ y) σ H QS) : JsC ts acc σ QS (.str y) H := ⟨y, rfl, by rw [sizeLine_eq]; exact hz, h⟩
theorem w_strS (h : Q (.str y) H) : rStrS [.str y] H Q := ⟨y, rfl, h⟩
instance i_w_strS : StepX (rStrS [.str y] H Q) (Q (.str y) H) := ⟨fun h => w_strS h⟩
theorem w_orT (h : ta σ H fun x H1 => OrC K tb σ Q x H1) : tOrT K ta tb σ H Q := h
instance i_w_orT : StepX (tOrT K ta tb σ H Q) (ta σ H fun x H1 => OrC K tb σ Q x H1) := ⟨fun h => w_orT h⟩
theorem w_andT (h : ta σ H fun x H1 => AndC K tb σ Q x H1) : tAndT K ta tb σ H Q := h
instance i_w_andT : StepX (tAndT K ta tb σ H Q) (ta σ H fun x H1 => AndC K tb σ Q x H1) := ⟨fun h => w_andT h⟩
theorem w_orcS (hz : y.length ≤ 16777216) (h1 : 1 ≤ y.length → Q (.str y) H) (h0 : y.length = 0 → tb σ H Q) : OrC K tb σ Q (.str y) H := by
  refine ⟨((y.length : Int) != 0), ⟨by rw [sizeLine_eq]; exact hz, rfl⟩, ?_⟩
  by_cases z : y.length = 0
  · have : ((y.length : Int) != 0) = false := by rw [z]; rfl
    rw [this]; exact w_iteF (h0 z)
  · have : ((y.length : Int) != 0) = true := bne_iff_ne.mpr (by omega)
    rw [this]; exact w_iteT (h1 (by omega))
end
end TP
namespace TP
open PySem PySem.Spec PyProof.Rows L2
section
open TL
theorem repr_let : ∀ c, c < 123 → 97 ≤ c → PySem.Builtin.Str.reprChar 39 c = [c] := by decide +kernel
theorem fold_let : ∀ (l : List Nat) (acc : Array Nat), (∀ c ∈ l, isLet c = true) → (l.foldl (fun out c => out ++ (PySem.Builtin.Str.reprChar 39 c).toArray) acc).toList = acc.toList ++ l
  | [], acc, _ => by simp
  | c :: r, acc, h => by
    have hc := h c List.mem_cons_self
    have e : PySem.Builtin.Str.reprChar 39 c = [c] := by
      unfold isLet at hc
      simp at hc
      exact repr_let c (by omega) (by omega)
    rw [List.foldl_cons, e, fold_let r _ fun c hc => h c (List.mem_cons_of_mem _ hc)]
    simp
theorem no39 {x : Str} (h : isName x = true) : 39 ∉ tl x := fun hm => by
  have := List.all_eq_true.mp (isName_let h) 39 hm
  revert this; decide
theorem tl_repr {x : Str} (h : isName x = true) : tl (PySem.reprText x) = 39 :: (tl x ++ [39]) := by
  have hq : PySem.reprQuote x = 39 := by
    unfold PySem.reprQuote
    have : x.cps.contains 39 = false := by
      rw [Bool.eq_false_iff]
      intro z
      rw [Array.contains_iff] at z
      exact no39 h (Array.mem_toList_iff.mpr z)
    rw [this]; rfl
  unfold PySem.reprText
  rw [hq]
  show (Array.push (x.cps.foldl (fun out c => out ++ (PySem.Builtin.Str.reprChar 39 c).toArray) #[39]) 39).toList = _
  rw [Array.toList_push, ← Array.foldl_toList, fold_let _ _ fun c hc => List.all_eq_true.mp (isName_let h) c hc]
  simp
def encP (p : Str × Int) : List Nat := [40, 39] ++ (tl p.1 ++ 39 :: ([44, 32] ++ (numL p.2.toNat ++ 41 :: [])))
theorem tl_int {i : Int} (h : 0 ≤ i) : tl (Str.ofString (toString i)) = numL i.toNat := by
  obtain ⟨n, rfl⟩ := Int.eq_ofNat_of_zero_le h
  exact tl_num n
theorem tl_pair {p : Str × Int} (h1 : isName p.1 = true) (g1 : 0 ≤ p.2) : tl (pairD p).shown = encP p := by
  show tl (("(" : Str) ++ (PySem.reprText p.1 ++ (", " : Str) ++ Str.ofString (toString p.2)) ++ (")" : Str)) = _
  rw [tl_append, tl_append, tl_append, tl_append, tl_repr h1, tl_int g1]
  show [40] ++ (39 :: (tl p.1 ++ [39]) ++ [44, 32] ++ numL p.2.toNat) ++ [41] = _
  simp [encP]
def contP : Bag → List Nat
  | [] => []
  | p :: r => [44, 32] ++ (encP p ++ contP r)
def bodyP : Bag → List Nat
  | [] => []
  | p :: r => encP p ++ contP r
theorem tl_join : ∀ (p : Str × Int) (r : Bag), (∀ q ∈ p :: r, isName q.1 = true ∧ 0 ≤ q.2) → tl (Str.join (", " : Str) (PyData.shownAll ((p :: r).map pairD))) = bodyP (p :: r)
  | p, [], h => by
    show tl (pairD p).shown = encP p ++ []
    rw [tl_pair (h p List.mem_cons_self).1 (h p List.mem_cons_self).2, List.append_nil]
  | p, q :: r, h => by
    have ih := tl_join q r fun x hx => h x (List.mem_cons_of_mem _ hx)
    show tl ((pairD p).shown ++ (", " : Str) ++ Str.join (", " : Str) (PyData.shownAll ((q :: r).map pairD))) = encP p ++ ([44, 32] ++ bodyP (q :: r))
    rw [tl_append, tl_append, ih, tl_pair (h p List.mem_cons_self).1 (h p List.mem_cons_self).2, List.append_assoc]
    rfl
end
end TP
namespace TP
open PySem PySem.Spec PyProof.Rows L2
theorem BagOk.init {ps : Bag} (h : BagOk ps) : BagOk ps.dropLast := by rw [List.dropLast_eq_take]; exact h.take _
end TP
namespace TP
open PySem PySem.Spec PyProof.Rows L2
section
variable {K : PySem.W.Frag} {H : Hp} {Q : VK} {a : Addr}
def DelC (x y : V) (H : Hp) (k : Hp → Prop) : Prop := ∃ a kvs kk, x = .ref a ∧ H a = some (.dK kvs) ∧ y = kV kk ∧ (valV kvs kk).isSome = true ∧ k (upd H a (.dK (dropK kvs kk)))
theorem w_ddel {td ty : TE} {σ : L2.St} {De : Ends} (h : td σ H fun x H1 => ty σ H1 fun y H2 => DelC x y H2 fun H3 => De.nx σ H3) : sDDel td ty De σ H := h
instance i_w_ddel {td ty : TE} {σ : L2.St} {De : Ends} : StepX (sDDel td ty De σ H) (td σ H fun x H1 => ty σ H1 fun y H2 => DelC x y H2 fun H3 => De.nx σ H3) := ⟨fun h => w_ddel h⟩
def AugC (x y : V) (tv : TE) (σ : L2.St) (rd : V → V → Hp → VK → Prop) (H : Hp) (k : Hp → Prop) : Prop := ∃ a v, x = .ref a ∧ DGet H a y (some v) ∧ tv σ H fun y2 H3 => rd v y2 H3 fun z H4 => ∃ H5, DPut H4 a y z H5 ∧ k H5
theorem w_daug {td ty tv : TE} {rd : V → V → Hp → VK → Prop} {σ : L2.St} {De : Ends} (h : td σ H fun x H1 => ty σ H1 fun y H2 => AugC x y tv σ rd H2 fun H5 => De.nx σ H5) : sDAug td ty tv rd De σ H := h
instance i_w_daug {td ty tv : TE} {rd : V → V → Hp → VK → Prop} {σ : L2.St} {De : Ends} : StepX (sDAug td ty tv rd De σ H) (td σ H fun x H1 => ty σ H1 fun y H2 => AugC x y tv σ rd H2 fun H5 => De.nx σ H5) := ⟨fun h => w_daug h⟩
end
end TP
namespace TP
open PySem PySem.Spec PyProof.Rows L2
theorem w_dpop1 {td ty : TE} {σ : L2.St} {H : Hp} {Q : VK} (h : td σ H fun x H1 => ∃ a, x = .ref a ∧ IsD H1 a ∧ ty σ H1 fun y H2 => ∃ kvs k v, H2 a = some (.dK kvs) ∧ y = kV k ∧ valV kvs k = some v ∧ Q v (upd H2 a (.dK (dropK kvs k)))) : tDPop1 td ty σ H Q := h
instance i_w_dpop1 {td ty : TE} {σ : L2.St} {H : Hp} {Q : VK} : StepX (tDPop1 td ty σ H Q) (td σ H fun x H1 => ∃ a, x = .ref a ∧ IsD H1 a ∧ ty σ H1 fun y H2 => ∃ kvs k v, H2 a = some (.dK kvs) ∧ y = kV k ∧ valV kvs k = some v ∧ Q v (upd H2 a (.dK (dropK kvs k)))) := ⟨fun h => w_dpop1 h⟩
end TP
namespace TP
open PySem PySem.Spec PyProof.Rows L2
def RevC (K : PySem.W.Frag) (x : V) (H : Hp) (Q : VK) : Prop := ∃ a xs, x = .ref a ∧ SqL K H a xs ∧ ∀ p, H p = none → Q (.ref p) (upd H p (.lst xs.reverse))
theorem w_revL {K : PySem.W.Frag} {te : TE} {σ : L2.St} {H : Hp} {Q : VK} (h : te σ H fun x H1 => RevC K x H1 Q) : tRevL K te σ H Q := h
instance i_w_revL {K : PySem.W.Frag} {te : TE} {σ : L2.St} {H : Hp} {Q : VK} : StepX (tRevL K te σ H Q) (te σ H fun x H1 => RevC K x H1 Q) := ⟨fun h => w_revL h⟩
theorem WordsOk.rev {ws : List Str} {n : Nat} (h : WordsOk ws n) : WordsOk ws.reverse n := ⟨by rw [List.length_reverse]; exact h.len, (List.reverse_perm ws).nodup_iff.mpr h.nd, fun w hw => h.nam w (List.mem_reverse.mp hw)⟩
end TP
namespace TP
open PySem PySem.Spec PyProof.Rows L2
theorem w_max {K : PySem.W.Frag} {H : Hp} {Q : VK} {a : Addr} {ns : List Int} (hs : SqL K H a (ns.map V.int)) (h0 : ns ≠ []) (h : ∀ m, m ∈ ns → (∀ y, y ∈ ns → y ≤ m) → Q (.int m) H) : rMax K [.ref a] H Q := ⟨a, ns, rfl, hs, List.length_pos_iff.mpr h0, h⟩
end TP
namespace TP
open PySem PySem.Spec PyProof.Rows L2 TL
theorem tl_app (x y : Str) : tl (x ++ y) = tl x ++ tl y := app_list x y
theorem tl_name {x : Str} (h : isName x = true) : ∀ c ∈ tl x, 97 ≤ c ∧ c ≤ 122 := fun c hc => by
  have := List.all_eq_true.mp (isName_let h) c hc
  unfold isLet at this
  have h2 := Bool.and_eq_true_iff.mp this
  exact ⟨of_decide_eq_true h2.1, of_decide_eq_true h2.2⟩
theorem tl_intS {i : Int} (h : 0 ≤ i) : tl (intS i) = numL i.toNat := tl_int h
theorem digit_range {n c : Nat} (h : c ∈ numL n) : 48 ≤ c ∧ c ≤ 57 := by
  have r := numL_digits n c h
  constructor
  · refine Classical.byContradiction fun q => absurd h (numL_free (.inl (by omega)))
  · refine Classical.byContradiction fun q => absurd h (numL_free (.inr (by omega)))
theorem int_short {i : Int} (h0 : 0 ≤ i) (h1 : i ≤ 10 ^ 100) : (intS i).length ≤ 101 := by
  rw [len_list]
  show (tl (intS i)).length ≤ 101
  rw [tl_intS h0]
  refine numL_len (by decide) ?_
  have h2 : i.toNat ≤ 10 ^ 100 := by
    have e : ((10 ^ 100 : Nat) : Int) = 10 ^ 100 := by rw [Int.natCast_pow]; rfl
    omega
  exact Nat.lt_of_le_of_lt h2 (by decide)
end TP
namespace TP
open PySem PySem.Spec PyProof.Rows L2
theorem flying_keeps {B h h' : Heap} {l : List Env} {e : Addr} {Z : Obj → Prop} (x : HandSPX.FlyingZ B l e Z h) (k : ∀ b o, h.get? b = some o → h'.get? b = some o) : HandSPX.FlyingZ B l e Z h' := by
  obtain ⟨a, b, c, oe, vs, T, oT, ts, e1, e2, e3, e4, e5, e6, e7, e8, e9⟩ := x
  exact ⟨fun q o z => k _ _ (a q o z), b, c.of_keeps fun b o z _ => ⟨o, k _ _ z, rfl⟩, oe, vs, T, oT, ts, k _ _ e1, e2, e3, e4, e5, e6, k _ _ e7, e8, e9⟩
def wAs3 (K : PySem.W.Frag) (c1 c2 c3 : Value) (i : Nat) (ts : Addr → Value → Option Addr → TS) (Wout : WX) (D : Ends) : WX := fun cls d σ H =>
  ∃ b, PySem.W.exmAny K cls [c1, c2, c3] = some b ∧ (b = true → ∀ a, H a = none → ts a cls d { nx := fun σ' H' => D.nx (σ'.set i none) H', rt := D.rt, bk := fun σ' H' => D.bk (σ'.set i none) H', ct := fun σ' H' => D.ct (σ'.set i none) H' } (σ.set i (some (.ref a))) H) ∧
    (b = false → Wout cls d σ H)
section
variable {X : Cx} {x1 x2 x3 n : Str} {c1 c2 c3 : Value} {i kk : Nat} {body suite : List Stmt} {b₀ : Stmt} {np1 np2 np3 tpos pos pos' : Pos} {tb : WX → TS} {ts : Addr → Value → Option Addr → TS} {Wout : WX}
theorem ps_try_as3 (hs : X.stack = X.env :: X.outer) (hf : X.env.frame = some X.env.locals) (hN : X.N.Nodup) (hi : X.N[i]? = some n) (hln : X.env.kindOf n = some .local) (hc1 : Names X x1 c1) (hc2 : Names X x2 c2) (hc3 : Names X x3 c3) (tk : Takes X Wout)
    (hb : ∀ (W : WX) (pn : List (Addr × Obj)) (xe : Value → Shared → Prop), Takes (X.tr pn xe) W → PassesOwn (model X.prog X.w) X.A X.env xe → PSs (X.tr pn xe) body (tb W))
    (hsu : ∀ (a : Addr) (oe : Obj) (cls : Value) (d : Option Addr) (pn : List (Addr × Obj)), Zc cls d oe → (∃ vs, oe.data = .fields vs) → PSs (X.suite a ((a, oe) :: pn)) (b₀ :: suite) (ts a cls d)) :
    PS X (.Try body [.ExceptHandler (some (.Tuple [.Name x1 np1, .Name x2 np2, .Name x3 np3] kk tpos)) (some n) (b₀ :: suite) pos'] [] [] pos) (fun D σ H => tb (wAs3 X.K c1 c2 c3 i ts Wout D) D σ H) := by
  refine ⟨fun pins s σ H D I h => ?_⟩
  have ok := I.ok
  have hfr : X.A.frames = some (X.env :: X.outer) := by rw [ok.frames, hs]
  have hloc : Loc X.env.scope n := .inl hln
  refine wpAny_Try_except ?_
  refine wpAny_mono ((hb (wAs3 X.K c1 c2 c3 i ts Wout D) (X.pn ++ pins) (fun e s₁ => wpAny (model X.prog X.w) X.A (noteFrame e X.env) (fun _ s₂ => wpAny (model X.prog X.w) X.A (setFlight e none) (fun _ s₃ =>
    wpAny (model X.prog X.w) X.A (handleBy e X.env [.ExceptHandler (some (.Tuple [.Name x1 np1, .Name x2 np2, .Name x3 np3] kk tpos)) (some n) (b₀ :: suite) pos']) (SP X pins D) X.xe s₃) X.xe s₂) X.xe s₁) (fun u s' xx => ?_) PassesOwn.looking).run [] s σ H D (I.toTry _) h) (fun f s1 hsp => ?_) (fun e s1 he => he)
  · obtain ⟨a, B, sI, pins', σ', H', cls, d, rfl, J', nb, up, sky, na, os, ag, b, hb1, hyes, hno⟩ := xx
    have J : Inv X pins σ' H' sI := J'.ofTry ok
    have sky' : Sky B (X.env :: X.outer) a (Zc cls d) X.env.locals s'.heap := by rw [← hs]; exact sky
    show wpAny (model X.prog X.w) X.A (noteFrame (.ref a) X.env) _ _ _
    refine Sky.land Zc.steady hfr hf sky' fun h3 fl3 up3 => ?_
    have J3 : Inv X pins σ' H' { s' with heap := h3 } := J.landed nb fl3.1 (up.trans up3) os ag
    obtain ⟨oe3, vs3, he3, hz3, hd3⟩ := fl3.there
    have notFr : ∀ {h : Heap} {o : Obj} {vs : Array Value}, h.FunFrames B (X.env :: X.outer) → h.get? a = some o → o.data = .fields vs → a ∉ frs (X.env :: X.outer) := fun {h o vs} ff e dd hm => by
      obtain ⟨_, o', e', hnf⟩ := ff.mem hm
      rw [e] at e'; cases e'
      exact hnf _ dd
    have nfr := notFr fl3.2.2.1 he3 hd3
    have nL : a ≠ X.env.locals := fun z => nfr (List.mem_filterMap.mpr ⟨X.env, List.mem_cons_self, by rw [hf, z]⟩)
    have nF : a ∉ X.fs := fun hm => by
      obtain ⟨e, he, q⟩ := List.mem_filterMap.mp hm
      exact nfr (List.mem_filterMap.mpr ⟨e, List.mem_cons_of_mem _ he, q⟩)
    have S3 := J3.suite he3 hd3 na nL nF
    refine wpAny_handleBy_cons (codeAny_handlers_test ?_) (by intro q; cases q)
    have LT : PySem.W.Looks (model X.prog X.w) h3 (typeOf (.ref a)) cls := fun A Q E s k q => wpAny_typeOf_ref (k _ _ he3) (by rw [hz3.1]; exact q)
    have test : ∀ {x : Str} {c : Value} {np : Pos}, Names X x c → ∀ {Q : Value → Shared → Prop} {E : Value → Shared → Prop}, Q c { s' with heap := h3 } → wpAny (model X.prog X.w) (X.A.mark (some (.ref a))) (eval (.Name x np) X.env) Q E { s' with heap := h3 } := fun {x c np} hc {Q E} q => by
      obtain ⟨hg, hdbg, hm | ⟨hm, hv, hnn⟩⟩ := hc
      · exact ld_glob (X := X.suite a ((a, oe3) :: (X.pn ++ pins))) S3 hg hm q hdbg
      · exact ld_blt (X := X.suite a ((a, oe3) :: (X.pn ++ pins))) S3 hg hm hv q hnn hdbg
    refine wpAny_Tuple ?_
    refine wpAny_items_cons (test hc1 ?_)
    refine wpAny_items_cons (test hc2 ?_)
    refine wpAny_items_cons (test hc3 ?_)
    refine wpAny_items_nil ⟨by size_fits, ?_⟩
    have kp : ∀ q o, h3.get? q = some o → (h3.push { cls := .type "tuple", data := .seq [c1, c2, c3].toArray }).get? q = some o := fun _ _ z => Heap.get?_push_of_some _ z
    refine (PySem.W.exm_tup3 (M := model X.prog X.w) ((J3.kIn).keeps kp) (LT.keeps kp) (Heap.get?_push_size h3 rfl) hb1).here ?_
    have flT := flying_keeps fl3 kp
    have upT := up3.trans (Heap.UpToSlots.of_keeps kp)
    generalize h3.push { cls := .type "tuple", data := .seq [c1, c2, c3].toArray } = hT at flT upT
    cases b with
    | true =>
      refine codeAny_handlers_suite_as ?_
      refine HandSPX.lands_againZ flT fun h4 fl4 up4 => ?_
      have J4 : Inv X pins σ' H' { s' with heap := h4 } := J.landed nb fl4.1 ((up.trans upT).trans up4) os ag
      obtain ⟨oe4, vs4, he4, hz4, hd4⟩ := fl4.there
      have S4 := J4.suite he4 hd4 na nL nF
      refine store_ok (X := X.suite a ((a, oe4) :: (X.pn ++ pins))) (v := .ref a) S4 hN hi hloc rfl (fun s5 S5 => ?_) (.inr hln)
      refine wpAny_mono ((hsu a oe4 cls d (X.pn ++ pins) hz4 ⟨_, hd4⟩).run [] s5 _ H' _ S5 (hyes rfl a na)) (fun f s6 hsp => ?_) (fun _ _ z => False.elim z)
      have end_ : ∀ {σ6 : L2.St} {H6 : Hp} {Q : Shared → Prop}, Inv (X.suite a ((a, oe4) :: (X.pn ++ pins))) [] σ6 H6 s6 → (∀ s7, Inv X pins (σ6.set i none) H6 s7 → Q s7) →
          wpAny (model X.prog X.w) X.A (do bindName X.env n .none; unbindBehindTheSuite X.env n pos') (fun _ s7 => Q s7) X.xe s6 := fun {σ6 H6 Q} S6 hq => gone_ok (S6.unsuite ok) hN hi hln hq
      cases f with
      | next =>
        obtain ⟨σ6, H6, S6, q6⟩ := hsp
        exact end_ S6 fun s7 J7 => ⟨_, _, J7, q6⟩
      | brk =>
        obtain ⟨σ6, H6, S6, q6⟩ := hsp
        exact end_ S6 fun s7 J7 => ⟨_, _, J7, q6⟩
      | cont =>
        obtain ⟨σ6, H6, S6, q6⟩ := hsp
        exact end_ S6 fun s7 J7 => ⟨_, _, J7, q6⟩
      | ret u =>
        obtain ⟨v6, σ6, H6, S6, r6, q6⟩ := hsp
        exact end_ S6 fun s7 J7 => ⟨_, _, _, J7, r6, q6⟩
    | false =>
      show wpAny _ X.A (handleBy (.ref a) X.env []) _ _ _
      refine wpAny_handleBy_nil ?_
      obtain ⟨k1, k2, k3, oe, vs, T, oT, ts', he, hz, hd, h1, hr⟩ := id flT
      unfold PySem.passOn
      refine wpAny_bind (wpAny_field he hd h1 ?_)
      rw [if_neg (show ¬ ((Value.ref T == Value.none) = true) from by simp)]
      have fin : wpAny (model X.prog X.w) X.A (setFlight (.ref a) X.env.frame) (fun _ s4 => wpAny (model X.prog X.w) X.A (throw (.ref a) : Sem Flow) (SP X pins D) X.xe s4) X.xe { s' with heap := hT } := by
        rw [hf]
        refine HandSPX.setFlight_upZ flT fun h4 hh4 up4 => wpAny_throw (tk _ _ ?_)
        exact ⟨a, B, sI, pins, σ', H', cls, d, rfl, J, nb, (up.trans upT).trans up4, .inr (.inr (by rw [hs]; exact hh4)), na, os, ag, hno rfl⟩
      first
        | exact wpAny_bind (wpAny_pure (wpAny_bind fin))
        | exact wpAny_bind fin
  · cases f with
    | next =>
      obtain ⟨σ', H', J', q⟩ := hsp
      exact wpAny_execs_nil ⟨σ', H', J'.ofTry ok, q⟩
    | brk =>
      obtain ⟨σ', H', J', q⟩ := hsp
      exact ⟨σ', H', J'.ofTry ok, q⟩
    | cont =>
      obtain ⟨σ', H', J', q⟩ := hsp
      exact ⟨σ', H', J'.ofTry ok, q⟩
    | ret u =>
      obtain ⟨v, σ', H', J', r, q⟩ := hsp
      exact ⟨v, σ', H', J'.ofTry ok, r, q⟩
end
end TP
namespace TPX
open PySem PySem.W PySem.Spec PySem.Calls PyProof.Rows
section
variable {prog : Program} {w : World} {A : Around} {E : Value → Shared → Prop} {s : Shared} {K : Frag} {x D : Addr} {ox : Obj} {od : Option Obj}
theorem findObj_dataA {C : Addr} {name : Str} {a g : Value} (hc : (clsIn K C).isSome = true) (ha : findIn K (.ref C) name = some (some a)) (hg : specialIn K a "__get__" = some (some g)) (ht : takesIn K a = some true) : findObj K C od name = some (.bind g a) := by
  obtain ⟨cd, hc⟩ := Option.isSome_iff_exists.mp hc
  unfold findObj
  rw [hc, Option.bind_some, ha, Option.bind_some]
  simp [hg, ht]
theorem kin_classA {Q : Option Value → Shared → Prop} (hga : findIn K (.ref D) "__getattribute__" = some (some (.builtin "BaseException.__getattribute__"))) (hgt : findIn K (.ref D) "__getattr__" = some none) (hsub : subIn K (.ref D) (.type "BaseException") = some true)
    (hdct : hasDictIn K D = true) (ha : findIn K (.ref D) "__class__" = some (some (.builtin "object.__class__")))
    (hn : specialIn K (.builtin "object.__class__") "__get__" = some (some (.builtin "getset_descriptor.__get__"))) (htk : takesIn K (.builtin "object.__class__") = some true) (hm : mroIn K D (.type "object") = some true)
    (X : K.In s.heap) (I : InstAt s.heap x ox D od) (h : Q (some (.ref D)) { s with toks := s.toks + 1 }) : wpAny (model prog w) A (getAttr? (.ref x) "__class__") Q E s := by
  have hf : findObj K D od "__class__" = some (.bind (.builtin "getset_descriptor.__get__") (.builtin "object.__class__")) := findObj_dataA (by obtain ⟨cd, hc, _⟩ := any_some hdct; rw [hc]; rfl) ha hn htk
  obtain ⟨hp, g, d, t, os⟩ := s
  have L0 := I.type (M := model prog w)
  have L1 := looks_findIn (M := model prog w) X hga
  have L2 := looks_findIn (M := model prog w) X hgt
  have L3 := looks_find (M := model prog w) X I hf
  have sub : Looks (model prog w) hp (isInstance (.ref x) (.type "BaseException")) true := L0.andThen (looks_subIn X hsub)
  have hx0 : (false && onTheHeap (Value.builtin "BaseException.__getattribute__")) = false := rfl
  have hx2 : (Value.builtin "BaseException.__getattribute__" == Value.builtin "object.__getattribute__") = false := by decide +kernel
  have hx1 : (onTheHeap (Value.ref D) && Value.builtin "BaseException.__getattribute__" == Value.builtin "object.__getattribute__") = false := by rw [hx2]; rfl
  unfold getAttr? getAttrBy? getAttrBy
  refine wpAny_bind (wpAny_mkText (wpAny_bind (wpAny_attempt (wpAny_holding (wpAny_bind (L0.at (wpAny_bind (L1.at ?_))))))))
  show wpAny _ _ (if (onTheHeap (Value.ref D) && Value.builtin "BaseException.__getattribute__" == Value.builtin "object.__getattribute__") = true then _ else _) _ _ _
  rw [hx1, if_neg Bool.false_ne_true]
  unfold getAttrByItsOwn hookBefore
  refine wpAny_bind ?_
  rw [if_pos (show onTheHeap (Value.ref D) = true from rfl)]
  refine L2.at ?_
  refine wpAny_bind (wpAny_attempt (wpAny_holding ?_))
  unfold callGetattribute
  rw [hx0, if_neg Bool.false_ne_true]
  unfold boundAndCalled
  rw [PySem.F.excAttr_ValueError.ga.bind (.ref x)]
  refine wpAny_bind (wpAny_pure ?_)
  show wpAny _ _ (call (.builtin "BaseException.__getattribute__") [.ref x, .str "__class__" t]) _ _ _
  refine wpAny_call (codeAny_call_builtin PySem.F.excAttr_ValueError.ga.plain PySem.F.entry_bexc_ga ?_)
  refine @check_slot (model prog w) _ _ ⟨hp, g, d, t + 1, os⟩ "BaseException.__getattribute__" "BaseException" "__getattribute__" (.ref x) [.str "__class__" t] [] _ (by decide +kernel) (by decide +kernel) sub (PySem.F.args_bexc_ga (.ref x) (.str "__class__" t)) ?_
  unfold Builtin.«object.__getattribute__»
  refine wpAny_bind (wpAny_of_eq (a := ((Value.ref x : Value), [Value.str "__class__" t])) (by first | rfl | (simp only [slotArgs]; rfl)) ?_)
  refine wpAny_bind (wpAny_pure (wpAny_bind (L0.at (wpAny_bind (L3.at ?_)))))
  show wpAny _ _ (holding [Value.builtin "object.__class__"] (call (.builtin "getset_descriptor.__get__") [.builtin "object.__class__", .ref x, .ref D]) >>= ret) _ _ _
  refine wpAny_bind (wpAny_holding (wpAny_call (class_get (s := ⟨hp, g, d, t + 1, os⟩) (ox := ox) (od := od) X I hm ?_)))
  refine wpAny_pure ?_
  show wpAny _ _ (handedOut (.ref D)) _ _ _
  rw [handedOut_of (v := .ref D) rfl]
  first
    | exact wpAny_pure (wpAny_pure h)
    | exact wpAny_pure h
    | exact wpAny_pure (wpAny_bind (wpAny_pure (wpAny_pure h)))
theorem kitx_excA (hga : findIn K (.ref D) "__getattribute__" = some (some (.builtin "BaseException.__getattribute__"))) (hgt : findIn K (.ref D) "__getattr__" = some none) (hsub : subIn K (.ref D) (.type "BaseException") = some true) (hdct : hasDictIn K D = true) (ha : findIn K (.ref D) "__class__" = some (some (.builtin "object.__class__")))
    (hn : specialIn K (.builtin "object.__class__") "__get__" = some (some (.builtin "getset_descriptor.__get__"))) (htk : takesIn K (.builtin "object.__class__") = some true) (hm : mroIn K D (.type "object") = some true) :
    KitX K (.ref x) (.ref D) (fun h => InstAt h x ox D od) where
  ty := fun _ _ _ I => I.type
  it := fun _ _ X _ => by
    obtain ⟨cdD, hcD, _⟩ := any_some hdct
    unfold clsIn at hcD
    split at hcD
    · rename_i c' d' cd' sl' ho
      intro A' Q' E' s' k q
      unfold isType loadHead
      exact wpAny_bind (wpAny_loadPart (k _ _ (X _ _ ho)) (wpAny_pure q))
    · cases hcD
  ne := fun h tp dd its n sl X htp => by
    obtain ⟨cdD, hcD, _⟩ := any_some hdct
    refine Bool.eq_false_iff.mpr fun q => ?_
    have e : D = tp := Value.ref.inj (beq_iff_eq.mp q)
    subst e
    unfold clsIn at hcD
    split at hcD
    · rename_i c' d' cd' sl' ho
      have z := (X _ _ ho).symm.trans htp
      cases z
    · cases hcD
  ca := fun X I k => kin_classA hga hgt hsub hdct ha hn htk hm X I k
end
end TPX
namespace TP
open PySem PySem.Spec PyProof.Rows L2
structure Held (X : Cx) (p : Addr × Obj) (D : Addr) (dd : Option Addr) : Prop where
  pin : p ∈ X.pn
  z : Zc (.ref D) dd p.2
  f : ∃ vs, p.2.data = .fields vs
def DxO (H : Hp) (dd : Option Addr) : Prop := ∀ d, dd = some d → ∃ fs, H d = some (.xd fs)
theorem Held.inst {X : Cx} {p : Addr × Obj} {D : Addr} {dd : Option Addr} {pins : List (Addr × Obj)} {σ : L2.St} {H : Hp} {s : Shared} (h : Held X p D dd) (I : Inv X pins σ H s) (hd : DxO H dd) :
    ∃ od : Option Obj, PySem.W.InstAt s.heap p.1 p.2 D od := by
  obtain ⟨ha, _⟩ := I.pin p (List.mem_append_left _ h.pin)
  obtain ⟨vs, hv⟩ := h.f
  have hz := h.z.2
  cases dd with
  | none => exact ⟨none, ha, h.z.1, by unfold PySem.W.notCls; rw [hv] <;> rfl, by rw [hz]; trivial⟩
  | some d =>
    obtain ⟨fs, hd⟩ := hd d rfl
    have hx : ObjOk X.prog X.w H s.heap d (.xd fs) := I.hok d _ hd
    obtain ⟨mA, hns, hr⟩ := hx
    obtain ⟨od, ho, hl⟩ := lookIn_ns hns
    exact ⟨some od, ha, h.z.1, by unfold PySem.W.notCls; rw [hv] <;> rfl, by rw [hz]; exact ho⟩
def rIsP (K : PySem.W.Frag) (a D : Addr) (dd : Option Addr) : List V → Hp → VK → Prop := fun xs H Q => ∃ (c : V) (cv : Value) (b : Bool), xs = [.ref a, c] ∧ ClsV c cv ∧ DxO H dd ∧ PySem.W.kitOne K (.ref D) cv = some b ∧ Q (.bl b) H
def rIsPT (K : PySem.W.Frag) (a D : Addr) (dd : Option Addr) : List V → Hp → VK → Prop := fun xs H Q => ∃ (tp : Addr) (cs : List V) (us : List Value) (b : Bool), xs = [.ref a, .ref tp] ∧ H tp = some (.tup cs) ∧ Paired ClsV cs us ∧ DxO H dd ∧ PySem.W.kitAny K (.ref D) us = some b ∧ Q (.bl b) H
theorem call_isP {X : Cx} {p : Addr × Obj} {D : Addr} {dd : Option Addr} (C : ExcC X.K D) (hh : Held X p D dd) : CallR X (.builtin "isinstance") (rIsP X.K p.1 D dd) := by
  intro pins s σ H xs us Q I r h
  obtain ⟨c, cv, b, rfl, hcv, hd, e, q⟩ := h
  obtain ⟨u1, u2, rfl, r1, r2⟩ := vals2 r
  have e2 := hcv.eq r2
  subst e2
  cases (show u1 = Value.ref p.1 from r1)
  obtain ⟨od, J⟩ := hh.inst I hd
  exact PySem.W.kia_one (TPX.kitx_excA C.hg C.hk C.hs C.hd C.ha C.hn C.ht C.hm) I.kIn J e (fun z => nomatch z) fun tk => ⟨.bl b, H, I.tok tk, rfl, q⟩
theorem call_isPT {X : Cx} {p : Addr × Obj} {D : Addr} {dd : Option Addr} (C : ExcC X.K D) (hh : Held X p D dd) : CallR X (.builtin "isinstance") (rIsPT X.K p.1 D dd) := by
  intro pins s σ H xs us Q I r h
  obtain ⟨tp, cs, ws, b, rfl, hT, k, hd, e, q⟩ := h
  obtain ⟨u1, u2, rfl, r1, r2⟩ := vals2 r
  cases (show u1 = Value.ref p.1 from r1)
  cases (show u2 = Value.ref tp from r2)
  obtain ⟨od, J⟩ := hh.inst I hd
  obtain ⟨_, its, rv, o, h1, h2, n, h3⟩ := (show ObjOk X.prog X.w H s.heap tp (.tup cs) from I.hok tp _ hT)
  have e3 := ClsV.all k rv
  subst e3
  obtain ⟨oc, od', dt, sl⟩ := o
  simp only at h2 h3
  subst h2 h3
  exact PySem.W.kia_tup (TPX.kitx_excA C.hg C.hk C.hs C.hd C.ha C.hn C.ht C.hm) I.kIn J h1 e (fun z => nomatch z) fun tk => ⟨.bl b, H, I.tok tk, rfl, q⟩
def tXp (a : Addr) (do_ : Option Addr) (f : Str) (te : TE) : TE := fun σ H Q => te σ H fun x H1 => x = .ref a ∧ ∃ (dd : Addr) (fs : List (Str × V)) (v : V), do_ = some dd ∧ H1 dd = some (.xd fs) ∧ fs.lookup f = some v ∧ Q v H1
theorem pe_xp {X : Cx} {p : Addr × Obj} {D : Addr} {do_ : Option Addr} {e : Expr} {te : TE} {pos : Pos} {n : Str} (T : XfC X.K D) (hno : PySem.W.findIn X.K (.ref D) n = some none) (hh : Held X p D do_) (he : PE X e te) (hb : attributeBase e n X.env (eval e X.env) = eval e X.env := by rfl) :
    PE X (.Attribute e n pos) (tXp p.1 do_ n te) := by
  refine ⟨fun pins s σ H Q I h => ?_⟩
  refine attr_of hb (thn (he.run pins s σ H _ I h) fun u s1 hh' => ?_)
  obtain ⟨x, H1, I1, rx, ex, dd, fs, v, edo, ea, l, q⟩ := hh'
  subst edo
  subst ex
  obtain rfl : u = Value.ref p.1 := rx
  obtain ⟨ha, _⟩ := I1.pin p (List.mem_append_left _ hh.pin)
  obtain ⟨vs, hd⟩ := hh.f
  have hx : ObjOk X.prog X.w H1 s1.heap dd (.xd fs) := I1.hok dd _ ea
  obtain ⟨mA, hns, hr⟩ := hx
  obtain ⟨od, ho, hl⟩ := lookIn_ns hns
  obtain ⟨u, hu, ru⟩ := RelO.some_of (v := v) (o := mA n) (by rw [← l]; exact hr n)
  have J : PySem.W.InstAt s1.heap p.1 p.2 D (some od) := ⟨ha, hh.z.1, by unfold PySem.W.notCls; rw [hd] <;> rfl, by rw [hh.z.2]; exact ho⟩
  exact HandSPX.exc_get I1.kIn J T.ga T.gg T.exC (PySem.W.findObj_own T.hdC hno rfl (by rw [hl, hu])) (handed_of ru) ⟨v, H1, I1.tok _, ru, q⟩
abbrev RoomH := L2H.RoomH
abbrev PinOk := L2H.PinOk
structure FnP (P : Program) (w : World) (K : PySem.W.Frag) (mg : Str → Option Value) (base : Heap) (k : Nat) (f : Addr) (fd : FuncData) (ps : List Str) (sp : Addr × Obj → Sp) : Prop where
  len : ∀ p vs H Q E, sp p vs H Q E → vs.length = ps.length
  run : ∀ (A : Around) (outer : List Env) (s : Shared) (H : Hp) (args : Args) (us : List Value) (vs : List V) (Q : VK) (E : XK) (p : Addr × Obj), RoomH k A → A.guards = some [] → PinOk outer H s p →
    Env0 P w K mg base A outer s H → BindsTo s fd args (ps.zip us) → Vals vs us → sp p vs H Q E → codeAny (model P w) A (.call (.ref f) args) (CR CX0 outer P w H s Q E) s
theorem fnP_of {P : Program} {w : World} {K : PySem.W.Frag} {mg : Str → Option Value} {base : Heap} {k : Nat} {f : Addr} {x qual : Str} {params : Arguments} {body : List Stmt} {scope : Scope} {dvs : List V} {kws : List (Str × V)} {fd : FuncData} {N ps : List Str} {sp : Addr × Obj → Sp}
    (F : FunD K x qual params body scope dvs kws f fd) (S : FnScope N ps scope) (len : ∀ p vs H Q E, sp p vs H Q E → vs.length = ps.length)
    (hbody : ∀ (cdv : Value) (A : Around) (outer : List Env) (s : Shared) (H : Hp) (vs : List V) (Q : VK) (E : XK) (p : Addr × Obj), RoomH k (A.deeper (envOfC qual scope s.heap.objs.size f cdv)) → (A.deeper (envOfC qual scope s.heap.objs.size f cdv)).guards = some [] → sp p vs H Q E →
      ∃ t, PSs (L2H.cxH CX0 P w K mg base N qual scope f cdv A outer s H E p) body t ∧ t { nx := fun _ H' => Q .non H', rt := Q } (start N vs) H) :
    FnP P w K mg base (k + 1) f fd ps sp := by
  obtain ⟨oc, od, dV, kV, doc, pm, an, cdv, ct, osl, rfl, lk, hcd, _, _⟩ := F.ex
  refine ⟨len, fun A outer s H args us vs Q E p hr hg hpin e0 hb r hsp => ?_⟩
  have hl := len _ _ _ _ _ hsp
  have kx : K.In s.heap := e0.mod.kin.keeps fun b o e => (e0.bs b o e).1
  have nl : s.heap.NoLimit := e0.mod.nolimit.keeps fun b o e => (e0.bs b o e).1
  refine codeAny_call_function hr.depth (kx _ _ lk) rfl S.co S.gen rfl (PySem.W.codeRec_of kx hcd) (hb _ _ _ _ ?_)
  refine wpAny_newFunctionEnv_cells S.kind (fun ⟨n, v⟩ hy => by
    rcases S.par n (List.of_mem_zip hy).1 with q | q
    · exact .inl q
    · exact .inr ⟨q, PySem.W.cellsFrom_some _ _ _ (.inl q)⟩) fun env he s1 ic => ?_
  subst he
  refine ⟨nl.keeps ic.toInCall.keep, codeAny_func ?_⟩
  obtain ⟨t, ht, hq⟩ := hbody cdv A outer s H vs Q E p (hr.deeper _) hg hsp
  have I0 := L2H.inv_startH (CX := CX0) (E := E) S hpin e0 hl r ic
  refine wpAny_mono (ht.run [] s1 (start N vs) H _ I0 hq) (fun fl s' hs => ?_) fun e s' hs => hs
  cases fl with
  | ret u =>
    obtain ⟨v, σ', H', J, rv, q⟩ := hs
    exact ⟨v, H', J.os, J.bare, J.base, J.hok, rv, q⟩
  | next =>
    obtain ⟨σ', H', J, q⟩ := hs
    exact ⟨.non, H', J.os, J.bare, J.base, J.hok, rfl, q⟩
  | brk =>
    obtain ⟨_, _, _, q⟩ := hs
    exact q.elim
  | cont =>
    obtain ⟨_, _, _, q⟩ := hs
    exact q.elim
structure HasP (P : Program) (w : World) (K : PySem.W.Frag) (mg : Str → Option Value) (base : Heap) (k : Nat) (x : Str) (st : Stmt) (ps : List Str) (sp : Addr × Obj → Sp) : Prop where
  ex : ∃ fd, FunD K x x (defArgs st) (defBody st) (defScope st) [] [] (He.ga K x) fd ∧ FnP P w K mg base k (He.ga K x) fd ps sp
  glo : mg x = some (.ref (He.ga K x))
theorem Dfd.hasP {P : Program} {w : World} {K : PySem.W.Frag} {mg : Str → Option Value} {base : Heap} {k : Nat} {x : Str} {st : Stmt} {N ps : List Str} {sp : Addr × Obj → Sp} (D : Dfd K mg x st) (S : FnScope N ps (defScope st)) (len : ∀ p vs H Q E, sp p vs H Q E → vs.length = ps.length)
    (hbody : ∀ (cdv : Value) (A : Around) (outer : List Env) (s : Shared) (H : Hp) (vs : List V) (Q : VK) (E : XK) (p : Addr × Obj), RoomH k (A.deeper (envOfC x (defScope st) s.heap.objs.size (He.ga K x) cdv)) → (A.deeper (envOfC x (defScope st) s.heap.objs.size (He.ga K x) cdv)).guards = some [] → sp p vs H Q E →
      ∃ t, PSs (L2H.cxH CX0 P w K mg base N x (defScope st) (He.ga K x) cdv A outer s H E p) (defBody st) t ∧ t { nx := fun _ H' => Q .non H', rt := Q } (start N vs) H) :
    HasP P w K mg base (k + 1) x st ps sp := by
  obtain ⟨fd, F⟩ := D.ex
  exact ⟨⟨fd, F, fnP_of F S len hbody⟩, D.glo⟩
theorem pe_fnP {X : Cx} {k : Nat} {ps : List Str} {sp : Addr × Obj → Sp} {x : Str} {st : Stmt} {q pos : Pos} {e : Expr} {es : List Expr} {t : TA} {p : Addr × Obj} (F : HasP X.prog X.w X.K X.mg X.base k x st ps sp) (hb : PosB x st ps) (hp : p ∈ X.pn) (hr : RoomH k X.A) (hg : X.A.guards = some []) (hgl : Gl X x)
    (ha : PA X (e :: es) t) (hdb : (x == ("__debug__" : Str)) = false := by decide) (he : starEach (e :: es) X.env = (false, eval e X.env) :: starEach es X.env := by rfl)
    (hpl : (backTo pos (starEach es X.env)).any (·.1) = false := by rfl) : PE X (.Call (.Name x q) (e :: es) [] pos) (tCall (sp p) [] E0 t) := by
  obtain ⟨fd, FD, G⟩ := F.ex
  refine ⟨fun pins s σ H Q I h => ?_⟩
  refine wpAny_Call_Name_kw (ld_glob I hgl F.glo ?_ hdb)
  refine PySem.W.callWith_K (h₀ := X.base) I.ok.mod.kin FD.kp (thn (ha.run pos pins s σ H _ I h) fun us s1 ⟨vs, H1, I1, r, q⟩ => ⟨I1.kIn, ?_⟩) he hpl
  have q2 : sp p vs H1 Q E0 := by rw [← List.append_nil vs]; exact q
  obtain ⟨kV, doc, pm, an, cdv, ct, rfl⟩ := FunD.noDef FD
  have P1 := I1.pin p (List.mem_append_left _ hp)
  have hpin : PinOk X.stack H1 s1 p := ⟨P1.1, P1.2.1, fun hm => (List.mem_cons.mp (I1.stkSub p.1 hm)).elim P1.2.2.1 P1.2.2.2.1, P1.2.2.2.2⟩
  have b := hb kV doc pm an cdv ct us (by rw [← r.length]; exact G.len _ _ _ _ _ q2)
  refine wpAny_call (codeAny_mono (G.run X.A X.stack s1 H1 ⟨us, []⟩ us vs Q E0 p hr hg hpin I1.env0 (.of_eq b) r q2) fun z s' hq => ?_)
  cases z with
  | error e => exact (show False from hq).elim
  | ok fl =>
    cases fl with
    | ret u => exact I1.after hq
    | next => exact hq.elim
    | brk => exact hq.elim
    | cont => exact hq.elim
end TP
namespace TP
open PySem PySem.Spec PyProof.Rows L2 LamX
theorem law_callGT {P : Program} {w : World} {K : PySem.W.Frag} {mg mb : Str → Option Value} {k : Nat} {fa a : Addr} {cs : List (Addr × Addr)} {fd : FuncData} {x : Str} {sp : Sp} {s₁ : Shared} {vs : List Value} {ns : List Int}
    (KX : K.In s₁.heap) (hns : s₁.heap.Ns mainGlobals mg) (hb : s₁.heap.Ns builtinsNs mb) (hbb : ∀ x : Str, x ≠ "__name__" → mb x = bootBuiltins x) (hlim : s₁.heap.NoLimit) (hg : s₁.gens = #[])
    (hT : ∀ p ∈ cs, s₁.heap.get? p.2 = some { cls := .none, data := .fields #[] }) (nT : ∀ p ∈ cs, K.lookup p.2 = none) (C : ∀ p ∈ cs, PySem.W.CodeHd s₁.heap p.1 p.2)
    (hbm : ∃ (bm : Addr) (ob : Obj), mg "__builtins__" = some (.ref bm) ∧ bm ≠ builtinsNs ∧ s₁.heap.get? bm = some ob ∧ ob.cls = .type "module" ∧ ob.dict = some builtinsNs ∧ ob.data = .plain)
    (ha : s₁.heap.get? a = some { cls := .type "list", data := .seq vs.toArray }) (hi : IntsAre vs ns) (hl : ns.length ≤ sizeLine) (hr : Room k callerA)
    (F : ∀ base : Heap, K.In base → base.Ns mainGlobals mg → (∀ p ∈ cs, TabB base mg p.1 p.2) → FnG P w K mg base CX0 k fa fd [x] sp) (hbind : ∀ (s : Shared) (u : Value), BindsTo s fd ⟨[u], []⟩ [(x, u)])
    (hsp : ∀ H : Hp, (∀ p ∈ cs, H p.2 = some (.tbl #[])) → SqL K H a (ns.map V.int) → sp [.ref a] H (fun v _ => v = .bl true) fun _ _ _ => False) :
    codeAny (model P w) callerA (.call (.ref fa) ⟨[.ref a], []⟩) (fun r s' => r = .ok (.ret (.bool true)) ∧ OldK s₁.heap s'.heap ∧ s'.os = s₁.os ∧ AllBare s'.gens) s₁ := by
  have rv := vals_ints hi
  have lenV := hi.length
  have isT : ∀ b : Addr, b ∈ cs.map (·.2) → s₁.heap.get? b = some { cls := .none, data := .fields #[] } := fun b hb => by
    obtain ⟨p, hp, e⟩ := List.mem_map.mp hb
    rw [← e]
    exact hT p hp
  have aT : a ∉ cs.map (·.2) := fun z => by
    have q := isT a z
    rw [ha] at q
    have z' : Data.seq vs.toArray _ = Data.fields #[] := congrArg Obj.data (Option.some.inj q)
    cases z'
  have memT : ∀ p ∈ cs, p.2 ∈ cs.map (·.2) := fun p hp => List.mem_map.mpr ⟨p, hp, rfl⟩
  -- from an abstract heap in which nothing but the script and the tables may be tracked
  have core : ∀ H : Hp, (∀ p ∈ cs, H p.2 = some (.tbl #[])) → (∀ b, H b = none ∨ b ∈ cs.map (·.2) ∨ ∃ o xs, H b = some (.frz o (.lst xs))) → SqL K H a (ns.map V.int) → HOk P w H s₁.heap → (∀ b, H b ≠ none → b = a ∨ b ∈ cs.map (·.2)) → (H a ≠ none → K.lookup a = none) →
      codeAny (model P w) callerA (.call (.ref fa) ⟨[.ref a], []⟩) (fun r s' => r = .ok (.ret (.bool true)) ∧ OldK s₁.heap s'.heap ∧ s'.os = s₁.os ∧ AllBare s'.gens) s₁ := by
    intro H hH hO hS hok hA hK
    have base_of : ∀ {b : Addr} {o : Obj}, s₁.heap.get? b = some o → H b = none → (hidT s₁.heap H).get? b = some o := fun e n => hidT_get e n
    have noD : ∀ {b : Addr} {o : Obj}, s₁.heap.get? b = some o → (∀ vs n, o.data ≠ .seq vs n) → o.data ≠ .fields #[] → H b = none := fun {b o} e h1 h2 => by
      cases q : H b with
      | none => rfl
      | some u =>
        rcases hA b (by rw [q]; simp) with e' | e'
        · rw [e', ha] at e
          cases e
          exact (h1 _ _ rfl).elim
        · rw [isT b e'] at e
          cases e
          exact (h2 rfl).elim
    have noA : ∀ {b : Addr} {o : Obj} {es : Array DictEntry} {ep : Nat}, s₁.heap.get? b = some o → o.data = .dict es ep → H b = none := fun {b o es ep} e d => by
      refine noD e (fun vs n z => ?_) fun z => ?_
      · rw [d] at z
        cases z
      · rw [d] at z
        cases z
    have nsK : ∀ {b : Addr} {m : Str → Option Value}, s₁.heap.Ns b m → (hidT s₁.heap H).Ns b m := fun {b m} ⟨o, es, ep, e, d, r⟩ => ⟨o, es, ep, base_of e (noA e d), d, r⟩
    have hKb : K.In (hidT s₁.heap H) := fun b o e => base_of (KX b o e) (by
      cases q : H b with
      | none => rfl
      | some u =>
        rcases hA b (by rw [q]; simp) with e' | e'
        · rw [e'] at e q
          rw [hK (by rw [q]; simp)] at e
          cases e
        · obtain ⟨p, hp, ep⟩ := List.mem_map.mp e'
          rw [← ep, nT p hp] at e
          cases e)
    have hM : L2.Mod K mg (hidT s₁.heap H) := ⟨hKb, nsK hns, ⟨mb, nsK hb, hbb⟩, let ⟨mc, h1, h2⟩ := hlim; ⟨mc, nsK h1, h2⟩⟩
    have TB : ∀ p ∈ cs, TabB (hidT s₁.heap H) mg p.1 p.2 := fun p hp => by
      have hTp := hT p hp
      refine ⟨?_, ?_, fun z => ?_⟩
      · obtain ⟨o, us, file, tf, flags, tg, inF, text, tt, e1, r1, r2, r3, r4, r5, r6, r7, r8, hne⟩ := C p hp
        refine ⟨o, us, file, tf, flags, tg, inF, text, tt, base_of e1 (noD e1 (fun vs n z => ?_) fun z => ?_), r1, r2, r3, r4, r5, r6, r7, r8, hne⟩
        · rw [r2] at z
          cases z
        · rw [r2] at z
          cases z
          simp at r3
      · obtain ⟨bm, ob, b1, b2, b3, b4, b5, b6⟩ := hbm
        have nG : bm ≠ mainGlobals := fun q => by
          obtain ⟨o, es, ep, e, hd, _⟩ := hns
          rw [q, e] at b3
          cases b3
          rw [hd] at b6
          cases b6
        have nP : bm ≠ p.2 := fun q => by
          rw [q, hTp] at b3
          cases b3
          cases b6
        refine ⟨bm, ob, b1, b2, nG, nP, base_of b3 (noD b3 (fun vs n z => ?_) fun z => ?_), b4, b5, b6⟩
        · rw [b6] at z
          cases z
        · rw [b6] at z
          cases z
      · obtain ⟨o, es, ep, e, hd, _⟩ := hns
        rw [z, hTp] at e
        cases e
        cases hd
    have e0 : Env0 P w K mg (hidT s₁.heap H) callerA [] s₁ H := ⟨rfl, hM, fun b o e => of_hidT e, Nat.le_of_eq (hidT_size _ _), trivial, fun b hb => absurd (show b ∈ ([] : List Addr) from hb) (by simp), hok, .of_eq hg⟩
    refine codeAny_mono ((F _ hKb (nsK hns) TB).run callerA [] s₁ H ⟨[.ref a], []⟩ [.ref a] [.ref a] _ _ hr rfl e0 (hbind s₁ (.ref a)) (.cons rfl .nil) (hsp H hH hS)) fun r s' h => ?_
    cases r with
    | error e => exact (show False from h).elim
    | ok fl =>
      cases fl with
      | next => exact False.elim h
      | brk => exact False.elim h
      | cont => exact False.elim h
      | ret u =>
        obtain ⟨v, H', os, bare, un, hok', r', q⟩ := h
        have q' : v = .bl true := q
        subst q'
        obtain rfl : u = Value.bool true := r'
        have key : ∀ b o, b ∉ cs.map (·.2) → s₁.heap.get? b = some o → s'.heap.get? b = some o := fun b o nb e => by
          cases q : H b with
          | none => exact un.keep b o e q (by intro z; exact absurd (show b ∈ ([] : List Addr) from z) (by simp)) (by simp)
          | some u =>
            rcases hO b with z | z | ⟨ob, xs, z⟩
            · rw [q] at z; cases z
            · exact absurd z nb
            · have z2 := un.frzs b ob _ z
              obtain ⟨e1, _⟩ := hok b _ z
              obtain ⟨e2, _⟩ := hok' b _ z2
              rw [e] at e1; cases e1
              exact e2
        have grown : ∀ p ∈ cs, ∃ more : Array Value, s'.heap.get? p.2 = some { cls := .none, data := .fields more } := fun p hp => by
          obtain ⟨more, z⟩ := un.tbls p.2 #[] (hH p hp)
          exact ⟨_, hok' p.2 _ z⟩
        refine ⟨rfl, ⟨fun b o e => ?_, fun b o e => ?_⟩, os, bare⟩
        · by_cases hb : b ∈ cs.map (·.2)
          · obtain ⟨p, hp, ep⟩ := List.mem_map.mp hb
            obtain ⟨more, hm⟩ := grown p hp
            rw [← ep] at e ⊢
            rw [hT p hp] at e
            cases e
            exact .inr (.inl ⟨((C p hp).tab (hT p hp)).isCodeTable, rfl, #[], more, rfl, by rw [Array.empty_append]; exact hm⟩)
          · exact .inl (key b o hb e)
        · by_cases hb : b ∈ cs.map (·.2)
          · obtain ⟨p, hp, ep⟩ := List.mem_map.mp hb
            obtain ⟨more, hm⟩ := grown p hp
            rw [← ep]
            exact ⟨_, hm⟩
          · exact ⟨o, key b o hb e⟩
  cases hk : K.lookup a with
  | some o =>
    have e := KX a o hk
    rw [ha] at e
    cases e
    refine core (fun b => if b ∈ cs.map (·.2) then some (.tbl #[]) else none) (fun p hp => if_pos (memT p hp)) (fun b => ?_) (.inr ⟨_, vs.toArray, _, hk, rfl, rfl, rfl, by rw [List.size_toArray, lenV]; exact hl, by simpa using rv⟩) (fun b u z => ?_) (fun b z => ?_) fun z => absurd (show (if a ∈ cs.map (·.2) then some (HO.tbl #[]) else none) = none from if_neg aT) z
    · by_cases hb : b ∈ cs.map (·.2)
      · exact .inr (.inl hb)
      · exact .inl (if_neg hb)
    · by_cases hb : b ∈ cs.map (·.2)
      · have z' := (if_pos hb).symm.trans z
        cases z'
        exact isT b hb
      · have z' := (if_neg hb).symm.trans z
        cases z'
    · by_cases hb : b ∈ cs.map (·.2)
      · exact .inr hb
      · exact absurd (if_neg hb) z
  | none =>
    refine core (fun b => if b = a then some (.frz { cls := .type "list", data := .seq vs.toArray } (.lst (ns.map V.int))) else if b ∈ cs.map (·.2) then some (.tbl #[]) else none) (fun p hp => (if_neg (show ¬ p.2 = a from fun z => aT (by rw [← z]; exact memT p hp))).trans (if_pos (memT p hp))) (fun b => ?_)
      (.inl (.inr ⟨{ cls := .type "list", data := .seq vs.toArray }, if_pos rfl⟩)) (fun b u z => ?_) (fun b z => ?_) fun _ => hk
    · by_cases hb : b = a
      · exact .inr (.inr ⟨_, _, if_pos hb⟩)
      · by_cases hb2 : b ∈ cs.map (·.2)
        · exact .inr (.inl hb2)
        · exact .inl ((if_neg hb).trans (if_neg hb2))
    · by_cases hb : b = a
      · have z' := (if_pos hb).symm.trans z
        cases z'
        rw [hb]
        exact ⟨ha, by rw [List.length_map]; exact hl, vs, _, rv, ha⟩
      · have z1 := (if_neg hb).symm.trans z
        by_cases hb2 : b ∈ cs.map (·.2)
        · have z' := (if_pos hb2).symm.trans z1
          cases z'
          exact isT b hb2
        · have z' := (if_neg hb2).symm.trans z1
          cases z'
    · by_cases hb : b = a
      · exact .inl hb
      · by_cases hb2 : b ∈ cs.map (·.2)
        · exact .inr hb2
        · exact absurd ((if_neg hb).trans (if_neg hb2)) z
def LawAtG (l : PySem.W.OpenLaw) (w : World) (K : PySem.W.Frag) (k n : Nat) (x : Str) (mg : Str → Option Value) (fa : Addr) (h : Heap) : Prop :=
  ∃ (fd : FuncData) (cs : List (Addr × Addr)) (sp : Sp), (∀ p ∈ cs, h.get? p.2 = some { cls := .none, data := .fields #[] }) ∧ (∀ p ∈ cs, K.lookup p.2 = none) ∧ (∀ p ∈ cs, PySem.W.CodeHd h p.1 p.2) ∧ (∀ (s : Shared) (u : Value), BindsTo s fd ⟨[u], []⟩ [(x, u)]) ∧
    (∀ (H : Hp) (a : Addr) (ns : List Int), ns.length ≤ n → (∀ p ∈ cs, H p.2 = some (.tbl #[])) → SqL K H a (ns.map V.int) → sp [.ref a] H (fun v _ => v = .bl true) fun _ _ _ => False) ∧
    ∀ base : Heap, K.In base → base.Ns mainGlobals mg → (∀ p ∈ cs, TabB base mg p.1 p.2) → FnG l.prog w K mg base CX0 k fa fd [x] sp
theorem walkGT {l : PySem.W.OpenLaw} {n k : Nat} {q : Program} {loose : List Str} {XP : (Str → Option Value) → Heap → Prop} {YP : World → Heap → Prop} {d : DefRec} {x : Str}
    (hn : l.most = some n) (hn2 : n ≤ sizeLine) (hdf : d.params.defaults = []) (hr : Room k callerA)
    (F : ∀ (w : World) (mg : Str → Option Value) (fa : Addr) (h : Heap), YP w h → h.Ns mainGlobals mg → mg d.name = some (.ref fa) → ∃ K : PySem.W.Frag, K.In h ∧ LawAtG l w K k n x mg fa h) :
    PySem.W.WalkO q loose XP YP l.row.toRowW d [] (fun f vs => PySem.call f vs) := by
  refine Att.attach_call hn hdf fun w s₀ s₁ mg mb fa o pm cd doc a vs ns G Y ho hd hcd hmg hobj hints hlen hg => ?_
  obtain ⟨K, KX, fd, cs, sp, hT, nT, C, hb, hsp, hF⟩ := F w mg fa _ Y G.T.g hmg
  exact law_callGT KX G.T.g G.T.b G.T.builtins G.T.nolimit hg hT nT C G.T.bmain hobj hints (Nat.le_trans hlen hn2) hr hF hb fun H hH hS => hsp H a ns hlen hH hS
end TP
namespace TPE
open PySem
theorem refsXB_cases {b : XB} : ∀ l : List Value, refsXB b l = true → (∃ c r, l = .ref c :: r ∧ refsXB b r = true) ∨ l = b.tl := fun l => by
  cases l with
  | nil => exact fun e => .inr (beq_iff_eq.mp e)
  | cons v r => cases v <;> first | exact fun e => .inl ⟨_, r, rfl, e⟩ | exact fun e => .inr (beq_iff_eq.mp e)
theorem tl_pass (b : XB) (self : Value) : PySem.refuseLoop self "__setattr__" b.tl = pure () := by
  cases b <;> kernel_rfl
theorem refsXB_pass {b : XB} (self : Value) : ∀ l : List Value, refsXB b l = true → PySem.refuseLoop self "__setattr__" l = pure () := fun l => by
  induction l with
  | nil => exact fun e => by cases b <;> exact absurd e (by decide)
  | cons a r ih =>
    intro e
    rcases refsXB_cases (a :: r) e with ⟨c, r', q, h⟩ | q
    · obtain ⟨rfl, rfl⟩ := List.cons.inj q
      rw [PySem.refuseLoop_ref]; exact ih h
    · rw [q]; exact tl_pass b self
theorem refsXB_contains {b : XB} (X : String) : ∀ l : List Value, refsXB b l = true → l.contains (.type X) = b.tl.contains (.type X) := fun l => by
  induction l with
  | nil => exact fun e => by cases b <;> exact absurd e (by decide)
  | cons a r ih =>
    intro e
    rcases refsXB_cases (a :: r) e with ⟨c, r', q, h⟩ | q
    · obtain ⟨rfl, rfl⟩ := List.cons.inj q
      rw [List.contains_cons, ih h]; rfl
    · rw [q]
theorem refsXB_ne {b : XB} {l : List Value} (e : refsXB b l = true) : l.isEmpty = false := by
  cases l with
  | nil => cases b <;> exact absurd e (by decide)
  | cons _ _ => rfl
end TPE
namespace TPE
open PySem PySem.HandSPX Builtin Builtin.ObjectAttr
section
variable {prog : Program} {w : World} {A : Around} {E : Value → Shared → Prop} {R : Result → Shared → Prop} {hp : Heap} {g : Array GenState} {d : Drawn} {t : Nat} {os : OsState}
theorem exc_osaB {b : XB} {K : W.Frag} {name : Str} {tk : Tok} {v : Value} {x C : Addr} {fv : Array Value} {cd : ClassData}
    (X : K.In hp) (hx : hp.get? x = some { cls := .ref C, data := .fields fv }) (hcd : W.clsIn K C = some cd) (hm : refsXB b cd.mro = true) (hh : cd.hasDict = true) (ha : W.findIn K (.ref C) name = some none)
    (hq : ∀ h' tk' dx, (∀ b o, b ≠ x → hp.get? b = some o → h'.get? b = some o) → hp.objs.size ≤ dx → dx ≠ x → h'.get? x = some { cls := .ref C, dict := some dx, data := .fields fv } →
      h'.Ns1 dx (fun y => if y = name then some v else none) → R (.ok (.ret .none)) ⟨h', g, d, tk', os⟩) :
    codeAny (model prog w) A (.call (.builtin "object.__setattr__") ⟨[.ref x, .str name tk, v], []⟩) R ⟨hp, g, d, t, os⟩ := by
  have I : W.InstAt hp x { cls := .ref C, data := .fields fv } C none := ⟨hx, rfl, rfl, trivial⟩
  have SF := F.store_object
  have ne := refsXB_ne hm
  have hob : cd.mro.contains (.type "object") = true := (refsXB_contains "object" _ hm).trans (by cases b <;> decide +kernel)
  have hxs : x ≠ hp.objs.size := Nat.ne_of_lt (Heap.lt_size hx)
  have sub : W.Looks (model prog w) hp (isInstance (.ref x) (.type "object")) true := I.type.andThen (W.looks_mroIn X (by unfold W.mroIn; rw [hcd, Option.bind_some, if_neg (by rw [ne]; decide), hob]))
  refine codeAny_call_builtin SF.slot.plain SF.entry (@W.check_slot (model prog w) _ _ ⟨hp, g, d, t, os⟩ "object.__setattr__" "object" "__setattr__" (.ref x) [.str name tk, v] [] _ SF.kind SF.split sub (SF.args (.ref x) (.str name tk) v) ?_)
  have hmr : W.Looks (model prog w) hp (mroOf (.ref C)) cd.mro := (W.looks_clsIn X hcd).andThen .now
  have L3 : W.Looks (model prog w) hp (storeTaker? none) none := .now
  have hcls : W.Looks (model prog w) hp (classData C) cd := W.looks_clsIn X hcd
  rw [W.osa_eq, refuse_eq]
  refine wpAny_bind (wpAny_bind (I.type.at (wpAny_bind (hmr.at ?_))))
  rw [refsXB_pass _ _ hm]
  refine wpAny_pure (wpAny_bind (I.type.at (wpAny_bind ((W.looks_findIn X ha).at (wpAny_bind (L3.at ?_))))))
  show wpAny _ _ (storeInOwnDict (.ref x) (.ref C) (.str name tk) name v false) _ _ _
  obtain ⟨nm, bs, mro, ns, qn, hd, sn, sb, ab, col, del⟩ := cd
  dsimp only at hh
  subst hh
  unfold storeInOwnDict ownDictForStores
  repeat (first | with_reducible refine store_in_new ?_ ?_ | with_reducible refine wpAny_loadPart_at hx ?_ | with_reducible refine hcls.at ?_ | wp_step)
  · exact ⟨_, #[], _, (Heap.get?_update_ne _ _ _ _ hxs.symm).trans (Heap.get?_push_at rfl rfl), rfl, fun e he => absurd he (by simp), fun _ => rfl⟩
  · intro h' tk' hn' hs
    have hx₁ : (hp.push { cls := .type "dict", data := .dict #[] }).get? x = some { cls := .ref C, data := .fields fv } := Heap.get?_push_of_some _ hx
    refine hq h' tk' hp.objs.size (fun b o hb ho => ?_) (Nat.le_refl _) hxs.symm ?_ hn'
    · exact (hs.2 b (Nat.ne_of_lt (Heap.lt_size ho))).trans ((Heap.get?_update_ne _ _ _ _ hb).trans (Heap.get?_push_of_some _ ho))
    · exact (hs.2 x hxs).trans (Heap.get?_update_self _ hx₁ rfl)
end
end TPE
namespace TP
open PySem PySem.Spec PyProof.Rows L2
structure OexB (K : PySem.W.Frag) (C : Addr) : Prop where
  cls : ∃ xb nm q N bs bm sn sub ab col dd k0 k1 k2 k3 k5, K.lookup C = some (excClassObj nm q C N bs bm true sn sub ab col dd k0 k1 k2 k3 k5 (TPE.XB.nw xb)) ∧ TPE.refsXB xb bm = true
  sa : PySem.W.findIn K (.ref C) "__setattr__" = some (some (.builtin "object.__setattr__"))
  exC : PySem.W.subIn K (.ref C) (.type "BaseException") = some true
  tyC : PySem.W.typeIn K (.ref C) = some (.type "type")
  kC : PySem.W.keepIn K (.ref C) = true
section
variable {X : Cx} {pins : List (Addr × Obj)} {σ : L2.St} {H : Hp} {s : Shared} {a C dx : Addr} {f : Str} {y : V} {u : Value} {fs : List (Str × V)} {Q : Unit → Shared → Prop} {E : Value → Shared → Prop} {A : Around}
theorem ost_newB (T : OexB X.K C) (I : Inv X pins σ H s) (e : H a = some (exo a C none)) (hno : PySem.W.findIn X.K (.ref C) f = some none) (ry : RelV y u)
    (h : ∀ dx s', H dx = none → dx ≠ a → Inv X pins σ (upd (upd H dx (exd dx [(f, y)])) a (exo a C (some dx))) s' → Q () s') : wpAny (model X.prog X.w) A (setAttr (.ref a) f u) Q E s := by
  obtain ⟨xb, nm, q, N, bs, bm, sn, sub, ab, col, dd, k0, k1, k2, k3, k5, hC, hbm⟩ := T.cls
  have hcl : PySem.W.clsIn X.K C = some { name := nm, bases := bs, mro := .ref C :: bm, ns := N, qualname := q, hasDict := true, slotNames := sn, subclasses := sub, abstract := ab, collection := col, hasDel := false } := by unfold PySem.W.clsIn; rw [hC] <;> rfl
  obtain ⟨t1, ho⟩ := exo_at I.hok e
  obtain ⟨hp, g, d, t, os⟩ := s
  refine PySem.W.set_plain I.kIn (ox := { cls := .ref C, dict := none, data := .fields #[.ref t1, .none, .none, .none, .bool false, .none] }) (od := none) ⟨ho, rfl, rfl, trivial⟩ T.sa ?_
  refine TPE.exc_osaB I.kIn ho hcl (show TPE.refsXB xb (.ref C :: bm) = true from hbm) rfl hno (fun h' tk' dx k dn dne hx hn => ?_)
  have hnd : H dx = none := I.hok.fresh dn
  have nd : ∀ {b : Addr} {o : Obj}, hp.get? b = some o → b ≠ dx := fun {b o} q => Nat.ne_of_lt (Nat.lt_of_lt_of_le (Heap.lt_size q) dn)
  have na : ∀ {b : Addr}, H b = none → b ≠ a := fun {b} n z => by
    rw [z, e] at n
    cases n
  have Un1 : Un X.fs [] H (upd (upd H dx (exd dx [(f, y)])) a (exo a C (some dx))) hp h' := {
    keep := fun b o q n _ _ => k b o (na n) q
    slot := fun b o q n _ _ => ⟨o.slots, k b o (na n) q⟩
    free := fun b o q n _ => by rw [upd_ne (na n), upd_ne (nd q)]; exact n
    there := fun b o q _ => by
      by_cases hb : b = a
      · exact ⟨_, by rw [hb]; exact hx⟩
      · exact ⟨o, k b o hb q⟩
    tups := fun b xs q => by rw [upd_ne (at_ne e q exo_tup), upd_ne (ne_of_none q hnd)]; exact q
    frzs := fun b o v q => by rw [upd_ne (at_ne e q exo_frz), upd_ne (ne_of_none q hnd)]; exact q
    tbls := fun b ps q => ⟨#[], by rw [upd_ne (at_ne e q exo_tbl), upd_ne (ne_of_none q hnd), q]; simp⟩ }
  refine h dx _ hnd dne (I.un (t' := tk') Un1 fun b o q => ?_)
  by_cases hb : b = a
  · subst hb
    rw [upd_same] at q
    cases q
    exact exo_ok hx
  · rw [upd_ne hb] at q
    by_cases hd : b = dx
    · subst hd
      rw [upd_same] at q
      cases q
      exact exd_ok hn (relO_put (fs := []) ry fun g => True.intro)
    · rw [upd_ne hd] at q
      exact (I.hok b o q).stay (fun c v hc z => k c v (by
          rcases hc with hc | hc
          · rw [hc]
            exact hb
          · exact at_ne e hc exo_own) z)
        (fun c hc => by rw [upd_ne (at_ne e hc exo_own), upd_ne (ne_of_none hc hnd)]; exact hc) (fun c xs hc => by rw [upd_ne (at_ne e hc exo_tup), upd_ne (ne_of_none hc hnd)]; exact hc)
end
def tOstB (K : PySem.W.Frag) (f : Str) (to te : TE) : TS := fun D σ H => te σ H fun y H1 => to σ H1 fun x H2 => ∃ a C : Addr, x = .ref a ∧ OexB K C ∧ PySem.W.findIn K (.ref C) f = some none ∧
  (H2 a = some (exo a C none) ∧ ∀ dx, H2 dx = none → dx ≠ a → D.nx σ (upd (upd H2 dx (exd dx [(f, y)])) a (exo a C (some dx))))
section
variable {X : Cx} {o e : Expr} {es : List Expr} {to te : TE} {ta : TA} {f : Str} {p p' p1 p2 pos : Pos}
theorem ps_ostB (ho : PE X o to) (he : PE X e te) (hs : swapsWith e (some (.Attribute o f p')) pos.line X.env = pure false := by rfl) : PS X (.Assign [.Attribute o f p'] e pos) (tOstB X.K f to te) := by
  refine ⟨fun pins s σ H D I h => ?_⟩
  refine plainObj_wpAny_Assign_Attribute (thn (he.run pins s σ H _ I h) fun v s1 ⟨y, H1, I1, r1, q1⟩ => thn (ho.run pins s1 σ H1 _ I1 q1) fun u s2 ⟨x, H2, I2, r2, a, C, ex, T, hno, q⟩ => ?_) hs
  subst ex
  obtain rfl : u = Value.ref a := r2
  obtain ⟨ea, q⟩ := q
  exact ost_newB T I2 ea hno r1 fun dx s' n ne J => ⟨σ, _, J, q dx n ne⟩
theorem pmk_oexB {CX : CXT} {x : Str} {C fI : Addr} {k : Nat} {fd : FuncData} {ps : List Str} {sp : Sp} {ds : List Value} {dvs : List V} (T : OexB X.K C) (iC : PySem.W.findIn X.K (.ref C) "__init__" = some (some (.ref fI))) (tI : PySem.W.typeIn X.K (.ref fI) = some (.type "function"))
    (F1 : FnOk X.prog X.w X.K X.mg X.base CX k fI fd ps sp) (hr : Room (k + 1) X.A) (hb : Binds X.K fd ps ds) (hd : Vals dvs ds) (hx : Passes CX X (fun _ _ _ => False)) (hg : Gl X x) (hm : X.mg x = some (.ref C)) (ha : PA X (e :: es) ta)
    (hdb : (x == ("__debug__" : Str)) = false := by decide) (he : starEach (e :: es) X.env = (false, eval e X.env) :: starEach es X.env := by rfl) (hpl : (backTo pos (starEach es X.env)).any (·.1) = false := by rfl) :
    PMk X (.Call (.Name x p) (e :: es) [] pos) (tMkO C sp dvs ta) := by
  intro pins s σ H Q I h
  obtain ⟨xb, nm, q, N, bs, bm, sn, sub, ab, col, dd, k0, k1, k2, k3, k5, hC, hbm⟩ := T.cls
  refine wpAny_Call_Name_kw (ld_glob I hg hm ?_ hdb)
  refine PySem.W.callWith_K (h₀ := X.base) I.ok.mod.kin T.kC (thn (ha.run pos pins s σ H _ I h) fun us s1 ⟨vs, H1, I1, r1, hz, q1⟩ => ⟨I1.kIn, ?_⟩) he hpl
  show wpAny _ _ (call (.ref C) us) _ _ _
  obtain ⟨hp, g, dr, tk, os⟩ := s1
  have hsz : hp.objs.size ≤ hp.objs.size + 1 := Nat.le_succ _
  have hn : H1 (hp.objs.size + 1) = none := I1.hok.fresh hsz
  have hq := q1 (hp.objs.size + 1) hn
  have kk : ∀ b o, hp.get? b = some o → ((hp.push (PySem.W.kdv_tup us)).push (PySem.HandSPX.excO C hp.objs.size)).get? b = some o := fun b o e => Heap.get?_push_of_some _ (Heap.get?_push_of_some _ e)
  have hget : ((hp.push (PySem.W.kdv_tup us)).push (PySem.HandSPX.excO C hp.objs.size)).get? (hp.objs.size + 1) = some (PySem.HandSPX.excO C hp.objs.size) := by heap_get
  have I2 : Inv X pins σ (upd H1 (hp.objs.size + 1) (exo (hp.objs.size + 1) C none)) ⟨(hp.push (PySem.W.kdv_tup us)).push (PySem.HandSPX.excO C hp.objs.size), g, dr, tk, os⟩ :=
    I1.laid (t' := tk) (a := hp.objs.size + 1) (o := exo (hp.objs.size + 1) C none) (h' := (hp.push (PySem.W.kdv_tup us)).push (PySem.HandSPX.excO C hp.objs.size)) kk hsz (exo_ok hget)
  have r2 : Vals (V.ref (hp.objs.size + 1) :: (vs ++ dvs)) (Value.ref (hp.objs.size + 1) :: (us ++ ds)) := .cons rfl (r1.append hd)
  have hl : (Value.ref (hp.objs.size + 1) :: us ++ ds).length = ps.length := by
    have e := r2.length
    rw [F1.len _ _ _ _ hq] at e
    exact e.symm
  have hus : us.length ≤ sizeLine := by
    rw [← Paired.length r1, sizeLine_eq]
    omega
  refine wpAny_call (PySem.HandSPX.call_own (TPE.base xb) (fun Y => TPE.refsXB_contains Y bm hbm) (I1.kIn _ _ hC) (PySem.W.looks_findIn I1.kIn iC) (fun self => PySem.W.bind_fn I1.kIn self tI) hus
    (codeAny_mono (F1.run _ X.stack _ _ ⟨Value.ref (hp.objs.size + 1) :: us, []⟩ (Value.ref (hp.objs.size + 1) :: (us ++ ds)) _ _ (fun _ _ _ => False) (hr.make C us []) (I2.env0.make C us []) (hb _ (Value.ref (hp.objs.size + 1) :: us) I2.kIn hl) r2 hq) fun r s' hq' => ?_))
  cases r with
  | error er => exact hx pins σ _ _ er s' I2 hq'
  | ok fl =>
    cases fl with
    | ret u =>
      obtain ⟨v, H2, os2, bare2, un2, hok2, rv, ev, d, fs, ea, ed, hd1, q2⟩ := hq'
      subst ev
      obtain ⟨h2, g2, d2, t2, os'⟩ := s'
      exact ⟨rv, mk_end (raises_own T.exC T.tyC) I1 hsz kk un2 hok2 os2 bare2 ea ed hd1 q2⟩
    | next => exact False.elim hq'
    | brk => exact False.elim hq'
    | cont => exact False.elim hq'
end
theorem oexS_ok {K : PySem.W.Frag} {C : Addr} (q : oexS K C = true) : ∃ xb nm q N bs bm sn sub ab col dd k0 k1 k2 k3 k5, K.lookup C = some (excClassObj nm q C N bs bm true sn sub ab col dd k0 k1 k2 k3 k5 (TPE.XB.nw xb)) ∧ TPE.refsXB xb bm = true := by
  unfold oexS at q
  split at q
  · rename_i dd cd sl ho
    split at q
    · rename_i C' bm k0 k1 k2 k3 n k5 hm hs
      simp only [Bool.and_eq_true, Bool.or_eq_true, beq_iff_eq, Bool.not_eq_true'] at q
      obtain ⟨rfl, hn, hdel, hdct⟩ := q
      have hxb : ∃ xb : TPE.XB, n = xb.nw ∧ TPE.refsXB xb bm = true := by
        rcases hn with h | h | h
        · exact ⟨.ve, h⟩
        · exact ⟨.le, h⟩
        · exact ⟨.ae, h⟩
      obtain ⟨xb, rfl, ht⟩ := hxb
      obtain ⟨nm, bs, mro, ns, qn, hd, sn, sub, ab, col, del⟩ := cd
      dsimp only at hm hdel hdct
      subst hm hdel hdct
      have hsl : sl = #[k0, k1, k2, k3, some (.builtin xb.nw), k5] := by
        obtain ⟨l⟩ := sl
        simp only at hs
        rw [hs]
      subst hsl
      exact ⟨xb, nm, qn, ns, bs, bm, sn, sub, ab, col, dd, k0, k1, k2, k3, k5, ho, ht⟩
    · cases q
  · cases q
structure ExcK (K : PySem.W.Frag) (mg : Str → Option Value) (C f : Str) : Prop where
  glo : mg C = some (.ref (He.ga K C))
  oex : OexB K (He.ga K C)
  na : PySem.W.findIn K (.ref (He.ga K C)) f = some none
  ini : PySem.W.findIn K (.ref (He.ga K C)) "__init__" = some (some (.ref (He.ma K (He.ga K C) "__init__")))
  fin : PySem.W.typeIn K (.ref (He.ma K (He.ga K C) "__init__")) = some (.type "function")
  ec : ExcC K (He.ga K C)
theorem exkB_ok {K : PySem.W.Frag} {h : Heap} {mg : Str → Option Value} {C f : Str} (X : K.In h) (G : h.Ns mainGlobals mg) (c : exkB K C f = true) : ExcK K mg C f := by
  unfold exkB at c
  simp only [Bool.and_eq_true, decide_eq_true_eq] at c
  obtain ⟨c1, c2, c3, c4, c5, c6, c7, c8, c9, d1, d2, d3, d4, d5, d6, d7⟩ := c
  exact ⟨He.glo_ok X G c1, ⟨oexS_ok c2, He.eqO_ok c3, c4, c5, c6⟩, He.eqO_ok c7, He.eqO_ok c8, c9, ⟨He.eqO_ok d1, He.eqO_ok d2, c4, d3, He.eqO_ok d4, He.eqO_ok d5, d6, d7⟩⟩
def sp_ini (K : PySem.W.Frag) (C f : Str) : Sp := fun vs H Q _ => ∃ (a : Addr) (y : V), vs = [.ref a, y] ∧ H a = some (exo a (He.ga K C) none) ∧ ∀ dx, H dx = none → dx ≠ a → Q .non (upd (upd H dx (exd dx [(f, y)])) a (exo a (He.ga K C) (some dx)))
theorem ok_ini {P : Program} {w : World} {K : PySem.W.Frag} {mg : Str → Option Value} {base : Heap} {C f s y q : Str} {st : Stmt} {p1 p2 p3 p4 : Pos} {fd : FuncData} (e : ExcK K mg C f) (F : FunD K "__init__" q (defArgs st) (defBody st) (defScope st) [] [] (He.ma K (He.ga K C) "__init__") fd)
    (S : FnScope [s, y] [s, y] (defScope st)) (hb : defBody st = [.Assign [.Attribute (.Name s p1) f p2] (.Name y p3) p4]) (vs : Vis (defScope st) s) (vy : Vis (defScope st) y) (d1 : (s == ("__debug__" : Str)) = false := by decide) (d2 : (s == ("__classdict__" : Str)) = false := by decide) (d3 : (y == ("__debug__" : Str)) = false := by decide) (d4 : (y == ("__classdict__" : Str)) = false := by decide) :
    FnOk P w K mg base CX0 2 (He.ma K (He.ga K C) "__init__") fd [s, y] (sp_ini K C f) := by
  obtain ⟨oc, od, dV, kV, doc, pm, an, cdv, ct, osl, rfl, lk, hcd, _, _⟩ := F.ex
  refine fn_of (k := 1) lk hcd S (fun vs H Q E h => ?_) fun A outer sh H vs' Q E hr h => ?_
  · obtain ⟨a, y, rfl, _⟩ := h; rfl
  · obtain ⟨a, v, rfl, ha, k⟩ := h
    rw [hb]
    refine ⟨_, pss_one (ps_ostB (pe_var (i := 0) rfl vs d1 d2) (pe_var (i := 1) rfl vy d3 d4)), ?_⟩
    exact ⟨v, rfl, .ref a, rfl, a, He.ga K C, rfl, e.oex, e.na, ha, fun dx h1 h2 => k dx h1 h2⟩
def RaiC (K : PySem.W.Frag) (C f : Str) (vs : List V) (H1 : Hp) (Q : XK) : Prop := vs.length ≤ 1000 ∧ ∀ a, H1 a = none → sp_ini K C f (.ref a :: (vs ++ [])) (upd H1 a (exo a (He.ga K C) none))
  (fun v H2 => v = .non ∧ ∃ (d : Addr) (fs : List (Str × V)), H2 a = some (exo a (He.ga K C) (some d)) ∧ H2 d = some (exd d fs) ∧ H1 d = none ∧ Q (.ref (He.ga K C)) (some d) (upd (del H2 a) d (.xd fs))) (fun _ _ _ => False)
theorem w_raic {K : PySem.W.Frag} {C f : Str} {y : V} {H1 : Hp} {Q : XK} (h : ∀ d, H1 d = none → Q (.ref (He.ga K C)) (some d) (upd H1 d (.xd [(f, y)]))) : RaiC K C f [y] H1 Q := by
  refine ⟨by show 1 ≤ 1000; decide, fun a ha => ⟨a, y, rfl, upd_same, fun dx h1 h2 => ?_⟩⟩
  have hd : H1 dx = none := by rw [upd_ne h2] at h1; exact h1
  refine ⟨rfl, dx, [(f, y)], upd_same, by rw [upd_ne h2, upd_same], hd, ?_⟩
  have e : upd (del (upd (upd (upd H1 a (exo a (He.ga K C) none)) dx (exd dx [(f, y)])) a (exo a (He.ga K C) (some dx))) a) dx (.xd [(f, y)]) = upd H1 dx (.xd [(f, y)]) := by
    funext b
    by_cases e1 : b = dx
    · subst e1; rw [upd_same, upd_same]
    · rw [upd_ne e1, upd_ne e1]
      by_cases e2 : b = a
      · subst e2; rw [del_same, ha]
      · rw [del_ne e2, upd_ne e2, upd_ne e1, upd_ne e2]
  rw [e]
  exact h dx hd
structure HasX (P : Program) (w : World) (K : PySem.W.Frag) (mg : Str → Option Value) (base : Heap) (C f : Str) : Prop where
  k : ExcK K mg C f
  ex : ∃ (fd : FuncData) (ps : List Str), FnOk P w K mg base CX0 2 (He.ma K (He.ga K C) "__init__") fd ps (sp_ini K C f) ∧ L2.Binds K fd ps []
theorem hasX_of {P : Program} {w : World} {K : PySem.W.Frag} {mg : Str → Option Value} {base : Heap} {C f s y q : Str} {st : Stmt} {p1 p2 p3 p4 : Pos} (e : ExcK K mg C f) (F : ∃ fd, FunD K "__init__" q (defArgs st) (defBody st) (defScope st) [] [] (He.ma K (He.ga K C) "__init__") fd)
    (S : FnScope [s, y] [s, y] (defScope st)) (hb : defBody st = [.Assign [.Attribute (.Name s p1) f p2] (.Name y p3) p4]) (vs : Vis (defScope st) s) (vy : Vis (defScope st) y)
    (bn : ∀ (kV doc pm : Value) (an : Option Addr) (cdv ct : Value) (us : List Value), us.length = 2 → bindArgs (PySem.W.fnOf "__init__" q (defArgs st) (defBody st) (defScope st) .none kV doc pm an cdv ct) ⟨us, []⟩ = pure ([s, y].zip us))
    (d1 : (s == ("__debug__" : Str)) = false := by decide) (d2 : (s == ("__classdict__" : Str)) = false := by decide) (d3 : (y == ("__debug__" : Str)) = false := by decide) (d4 : (y == ("__classdict__" : Str)) = false := by decide) : HasX P w K mg base C f := by
  obtain ⟨fd, F⟩ := F
  obtain ⟨kV, doc, pm, an, cdv, ct, efd⟩ := FunD.noDef F
  refine ⟨e, fd, [s, y], ok_ini e F S hb vs vy d1 d2 d3 d4, Binds.all fun us hl => ?_⟩
  rw [efd]
  exact bn kV doc pm an cdv ct us hl
def tRai (K : PySem.W.Frag) (C f : Str) (W : WX) (te : TE) : TS := fun _ σ H => te σ H fun y H1 => RaiC K C f [y] H1 fun cls d H' => W cls d σ H'
theorem ps_rai {X : Cx} {W : WX} (K : PySem.W.Frag) {C f : Str} {p pos pos' : Pos} {e : Expr} {te : TE} (h : HasX X.prog X.w K X.mg X.base C f) (hc : X.calm = true) (tk : Takes X W) (hr : Room 3 X.A) (hg : Gl X C) (he : PE X e te) (hK : X.K = K := by rfl)
    (hdb : (C == ("__debug__" : Str)) = false := by decide) (hse : starEach [e] X.env = (false, eval e X.env) :: starEach [] X.env := by rfl) (hpl : (backTo pos (starEach [] X.env)).any (·.1) = false := by rfl) :
    PS X (.Raise (some (.Call (.Name C p) [e] [] pos)) none pos') (tRai K C f W te) := by
  subst hK
  obtain ⟨fd, ps, O, B⟩ := h.ex
  exact ps_raise hc tk (pmk_oexB (dvs := []) (ds := []) h.k.oex h.k.ini h.k.fin O hr B .nil pass0 hg h.k.glo (pa_cons he pa_nil hse) hdb hse hpl)
theorem w_rai {K : PySem.W.Frag} {C f : Str} {W : WX} {te : TE} {D : Ends} {σ : L2.St} {H : Hp} (h : te σ H fun y H1 => RaiC K C f [y] H1 fun cls d H' => W cls d σ H') : tRai K C f W te D σ H := h
theorem takesE {P : Program} {w : World} {K : PySem.W.Frag} {mg : Str → Option Value} {base : Heap} {N : List Str} {q : Str} {sc : Scope} {f : Addr} {cd : Value} {A : Around} {outer : List Env} {s : Shared} {H : Hp} {E : XK} :
    Takes (cxOf (L2.CX P w) P w K mg base N q sc f cd A outer s H E) (fun cls d _ H' => E cls d H') := takes_of rfl rfl rfl rfl
theorem passE {X : Cx} {E : XK} (tk : Takes X (fun cls d _ H' => E cls d H')) : Passes (L2.CX X.prog X.w) X E := passes_call tk fun _ _ _ _ h => h
end TP
namespace TP
open PySem PySem.Spec PyProof.Rows L2 LamX
theorem exTab_a {e : ExE} (h : e ∈ exTab) : e ∈ exTabA := List.mem_append_left _ h
theorem exTab_f : ∀ e ∈ exTab, e.2.1 ≠ "" := by decide +kernel
def DdO (H : Hp) (e : ExE) (y : V) : Option Addr → Prop
  | some dd => e.2.1 ≠ "" ∧ H dd = some (.xd [(e.2.1, y)])
  | none => e.2.1 = ""
def fldL (y : V) : Option Addr → List V
  | some _ => [y]
  | none => []
theorem DdO.same {H H' : Hp} {e : ExE} {y : V} : ∀ {dd : Option Addr}, DdO H e y dd → Same H H' → DdO H' e y dd
  | some _, h, s => ⟨h.1, s _ _ h.2⟩
  | none, h, _ => h
def HeldS (K : PySem.W.Frag) (p : Addr × Obj) (H : Hp) (e : ExE) (y : V) (dd : Option Addr) : Prop := Zc (.ref (He.ga K e.1)) dd p.2 ∧ (∃ vs, p.2.data = .fields vs) ∧ DdO H e y dd
def spKind (K : PySem.W.Frag) : Addr × Obj → Sp := fun p vs H Q _ => ∃ (e : ExE) (y : V) (dd : Option Addr), vs = [.ref p.1] ∧ e ∈ exTabA ∧ HeldS K p H e y dd ∧ ∀ H', Same H H' → Q (.str e.2.2) H'
def spFields (K : PySem.W.Frag) : Addr × Obj → Sp := fun p vs H Q _ => ∃ (e : ExE) (y : V) (dd : Option Addr), vs = [.ref p.1] ∧ e ∈ exTabA ∧ HeldS K p H e y dd ∧ ∀ l H', Same H H' → H' l = some (.lst (fldL y dd)) → Q (.ref l) H'
def CaughtC (K : PySem.W.Frag) (cls : Value) (d : Option Addr) (H : Hp) (Q : VK) : Prop := ∃ (e : ExE) (y : V) (dd : Option Addr), e ∈ exTabA ∧ cls = .ref (He.ga K e.1) ∧ d = dd ∧ DdO H e y dd ∧ ∀ l H', Same H H' → H' l = some (.lst (.str e.2.2 :: fldL y dd)) → Q (.ref l) H'
def LstC (xs : List V) (H1 : Hp) (Q : VK) : Prop := xs.length ≤ sizeLine ∧ ∀ p, H1 p = none → Q (.ref p) (upd H1 p (.lst xs))
def TCaught (K : PySem.W.Frag) : (XK → Hp → VK → Prop) → Hp → VK → Prop := fun tl H Q => tl (fun cls d H' => CaughtC K cls d H' Q) H fun v H1 => LstC [.str "returned", v] H1 Q
def tKF (K : PySem.W.Frag) (p : Addr × Obj) : TS := tRet (tOp rCat (tLst (tCons (tCall (spKind K p) [] E0 (tCons (tVar 1) tNil)) tNil)) (tCall (spFields K p) [] E0 (tCons (tVar 1) tNil)))
theorem caught_gives {X : Cx} {k1 k2 : Nat} {x q : Str} {sg : Scope} {g : Addr} {cdg : Value} {stk stf : Stmt} {kk j : Nat} {p1 p2 p3 p4 p5 q1 q2 q3 q4 q5 q6 q7 q8 r1 r2 r3 r4 r5 r6 r7 : Pos}
    (hr : Room (k1 + k2 + 1) X.A) (hg : X.A.guards = some []) (hk : HasP X.prog X.w X.K X.mg X.base k1 "_law_kind" stk ["_law_e"] (spKind X.K)) (hf : HasP X.prog X.w X.K X.mg X.base k2 "_law_fields" stf ["_law_e"] (spFields X.K)) (pbk : PosB "_law_kind" stk ["_law_e"]) (pbf : PosB "_law_fields" stf ["_law_e"])
    (n1 : X.mg "TallyError" = some (.ref (He.ga X.K "TallyError"))) (n2 : X.mg "StateError" = some (.ref (He.ga X.K "StateError"))) (n3 : X.mg "SizeError" = some (.ref (He.ga X.K "SizeError")))
    (hx : ∀ e ∈ exTabA, PySem.W.exmAny X.K (.ref (He.ga X.K e.1)) [.ref (He.ga X.K "TallyError"), .ref (He.ga X.K "StateError"), .ref (He.ga X.K "SizeError")] = some true)
    (g1 : sg.names.lookup ("TallyError" : Str) = some .globalImplicit) (g2 : sg.names.lookup ("StateError" : Str) = some .globalImplicit) (g3 : sg.names.lookup ("SizeError" : Str) = some .globalImplicit) (g4 : sg.names.lookup ("_law_kind" : Str) = some .globalImplicit) (g5 : sg.names.lookup ("_law_fields" : Str) = some .globalImplicit) (g6 : sg.names.lookup ("_law_e" : Str) = some .local) :
    GivesTo X ["_law_call", "_law_e"] x sg g cdg [.Try [.Return (some (.List [.Constant (.str "returned") j p1, .Call (.Name "_law_call" p2) [] [] p3] p4)) p5]
      [.ExceptHandler (some (.Tuple [.Name "TallyError" q1, .Name "StateError" q2, .Name "SizeError" q3] kk q4)) (some "_law_e") [.Return (some (.BinOp (.List [.Call (.Name "_law_kind" r1) [.Name "_law_e" r2] [] r3] r4) .Add (.Call (.Name "_law_fields" r5) [.Name "_law_e" r6] [] r7) q5)) q6] q7] [] [] q8] "_law_call" q (TCaught X.K) := by
  intro f c' s H Q tl act hc h
  have hN : (["_law_call", "_law_e"] : List Str).Nodup := by decide +kernel
  have rmH : ∀ (k : Nat), k ≤ k1 + k2 → ∀ {h : Option Value}, RoomH k ((X.A.deeper (envOfC x sg s.heap.objs.size g cdg)).mark h) := fun k hk h => L2H.RoomH.mono (j := k) (k := k1 + k2) ⟨(hr.deeper (envOfC x sg s.heap.objs.size g cdg)).dp, (hr.deeper (envOfC x sg s.heap.objs.size g cdg)).un⟩ hk
  refine ⟨_, pss_one (ps_try_as3 (X := (cxOf C8.CX0 X.prog X.w X.K X.mg X.base ["_law_call", "_law_e"] x sg g cdg X.A X.stack s H C8.E0).nox) (i := 1) (c1 := .ref (He.ga X.K "TallyError")) (c2 := .ref (He.ga X.K "StateError")) (c3 := .ref (He.ga X.K "SizeError"))
      (tb := fun W D σ H => ∃ Ech : XK, (∀ cls d σ' H', Ech cls d H' → W cls d σ' H') ∧ σ[0]? = some (some (.ref f)) ∧ H c' = some (CodeO c' q) ∧ tl Ech H fun v H1 => LstC [.str "returned", v] H1 D.rt)
      (ts := fun a cls d D σ H => ∀ oe, Zc cls d oe → (∃ vs, oe.data = .fields vs) → σ.length = 2 → tKF X.K (a, oe) D σ H)
      rfl rfl hN rfl g6 ⟨g1, by decide, .inl n1⟩ ⟨g2, by decide, .inl n2⟩ ⟨g3, by decide, .inl n3⟩ L2.takes0 (fun W pn xe tk _ => ?_) (fun a oe cls d pn hz hfl => ?_)), ?_⟩
  · refine ⟨fun pins s' σ H' D I h' => ?_⟩
    obtain ⟨Ech, hW, h1, h2, h3⟩ := h'
    have hp := act W pn xe Ech p2 p3 tk hW
    exact (pss_one (ps_ret (pos := p5) (pe_lst (pos := p4) (pa_cons (pe_str (x := "returned") (j := j) (pos := p1)) (pa_cons hp pa_nil))))).run pins s' σ H' D I ⟨h1, h2, h3⟩
  · refine ⟨fun pins s' σ H' D I h' => ?_⟩
    refine PSs.run (t := tKF X.K (a, oe)) ?_ pins s' σ H' D I (h' oe hz hfl I.len)
    refine pss_one (ps_ret (pe_op op_cat (pe_lst (pa_cons (pe_fnP (p := (a, oe)) hk pbk List.mem_cons_self ?_ hg g4 (pa_cons (pe_var (i := 1) rfl (.inl g6)) pa_nil)) pa_nil)) (pe_fnP (p := (a, oe)) hf pbf List.mem_cons_self ?_ hg g5 (pa_cons (pe_var (i := 1) rfl (.inl g6)) pa_nil))))
    · exact rmH k1 (by omega)
    · exact rmH k2 (by omega)
  · refine ⟨fun cls d H' => CaughtC X.K cls d H' Q, fun cls d σ' H' hcc => ?_, rfl, hc, h⟩
    obtain ⟨e, y, dd, he, rfl, rfl, hdd, kq⟩ := hcc
    refine ⟨true, hx e he, fun _ a ha oe hz hfl hl => ?_, nofun⟩
    have hget : (σ'.set 1 (some (.ref a)))[1]? = some (some (.ref a)) := by
      rw [List.length_set] at hl
      rw [List.getElem?_set_self (by omega)]
    refine ⟨.ref a, hget, e, y, _, rfl, he, ⟨hz, hfl, hdd⟩, fun H1 s1 => ?_⟩
    refine ⟨by show 1 ≤ sizeLine; rw [sizeLine_eq]; decide, fun l hl1 => ?_⟩
    have s2 := same_step (u := .lst [.str e.2.2]) s1 hl1
    refine ⟨.ref a, hget, e, y, _, rfl, he, ⟨hz, hfl, hdd.same s2⟩, fun l2 H3 s3 hl2 => ?_⟩
    refine ⟨l, l2, [.str e.2.2], _, rfl, rfl, s3 _ _ upd_same, hl2, ?_, fun p hp => ?_⟩
    · have : (fldL y d).length ≤ 1 := by cases d <;> simp [fldL]
      rw [sizeLine_eq]
      simp only [List.length_cons, List.length_nil]
      omega
    exact kq p _ (same_step (s2.trans s3) hp) upd_same
end TP
namespace TP
open PySem PySem.Spec PyProof.Rows L2
theorem ExcC.xfo {K : PySem.W.Frag} {D : Addr} (h : ExcC K D) : XfC K D := ⟨h.hg, h.hk, h.hs, h.hd⟩
theorem exhB_ok {K : PySem.W.Frag} {C : Str} (c : exhB K C = true) : ExcC K (He.ga K C) := by
  unfold exhB at c
  simp only [Bool.and_eq_true, decide_eq_true_eq] at c
  obtain ⟨c4, d1, d2, d3, d4, d5, d6, d7⟩ := c
  exact ⟨He.eqO_ok d1, He.eqO_ok d2, c4, d3, He.eqO_ok d4, He.eqO_ok d5, d6, d7⟩
structure ExF (K : PySem.W.Frag) (mg : Str → Option Value) : Prop where
  ec : ∀ e ∈ exTabA, ExcC K (He.ga K e.1)
  glo : ∀ C ∈ exLeaf ++ exBase, mg C = some (.ref (He.ga K C))
  kit : ∀ e ∈ exTabA, ∀ C ∈ exLeaf ++ exBase, PySem.W.kitOne K (.ref (He.ga K e.1)) (.ref (He.ga K C)) = some (exIs e C)
  kb : ∀ e ∈ exTabA, PySem.W.kitOne K (.ref (He.ga K e.1)) (.type "ValueError") = some (exIs e "TallyError") ∧ PySem.W.kitOne K (.ref (He.ga K e.1)) (.type "LookupError") = some (exIs e "StateError") ∧ PySem.W.kitOne K (.ref (He.ga K e.1)) (.type "ArithmeticError") = some (exIs e "SizeError")
  na : ∀ e ∈ exTabA, ∀ f ∈ exFlds, PySem.W.findIn K (.ref (He.ga K e.1)) f = some none
  exm : ∀ e ∈ exTabA, PySem.W.exmAny K (.ref (He.ga K e.1)) [.ref (He.ga K "TallyError"), .ref (He.ga K "StateError"), .ref (He.ga K "SizeError")] = some true
  free : mg "ValueError" = none ∧ mg "LookupError" = none ∧ mg "ArithmeticError" = none
theorem exfB_ok {K : PySem.W.Frag} {h : Heap} {mg : Str → Option Value} (X : K.In h) (G : h.Ns mainGlobals mg) (c : exfB K = true) : ExF K mg := by
  obtain ⟨c1, c⟩ := Bool.and_eq_true_iff.mp c
  obtain ⟨c2, c⟩ := Bool.and_eq_true_iff.mp c
  obtain ⟨c3, c⟩ := Bool.and_eq_true_iff.mp c
  obtain ⟨c4, c⟩ := Bool.and_eq_true_iff.mp c
  obtain ⟨c5, c⟩ := Bool.and_eq_true_iff.mp c
  obtain ⟨c6, c⟩ := Bool.and_eq_true_iff.mp c
  obtain ⟨c7, c⟩ := Bool.and_eq_true_iff.mp c
  obtain ⟨c8, c9⟩ := Bool.and_eq_true_iff.mp c
  refine ⟨fun e he => exhB_ok (List.all_eq_true.mp c1 e he), fun C hC => He.glo_ok X G (List.all_eq_true.mp c2 C hC), fun e he C hC => of_decide_eq_true (List.all_eq_true.mp (List.all_eq_true.mp c3 e he) C hC), fun e he => ?_,
    fun e he f hf => He.eqO_ok (List.all_eq_true.mp (List.all_eq_true.mp c5 e he) f hf), fun e he => of_decide_eq_true (List.all_eq_true.mp c6 e he), He.free_ok X G c7, He.free_ok X G c8, He.free_ok X G c9⟩
  obtain ⟨a, b⟩ := Bool.and_eq_true_iff.mp (List.all_eq_true.mp c4 e he)
  obtain ⟨b, d⟩ := Bool.and_eq_true_iff.mp b
  exact ⟨of_decide_eq_true a, of_decide_eq_true b, of_decide_eq_true d⟩
section
variable {K : PySem.W.Frag} {mg : Str → Option Value} {H : Hp} {Q : VK} {p : Addr × Obj} {e : ExE} {y : V} {dd : Option Addr}
theorem HeldS.dx (h : HeldS K p H e y dd) : DxO H dd := fun d z => by
  subst z
  exact ⟨_, h.2.2.2⟩
theorem HeldS.some (h : HeldS K p H e y dd) {f : Str} (hf : e.2.1 = f) (hn : f ≠ "") : ∃ d, dd = .some d ∧ H d = .some (.xd [(e.2.1, y)]) := by
  cases dd with
  | none => exact absurd (hf.symm.trans h.2.2) hn
  | some d => exact ⟨d, rfl, h.2.2.2⟩
theorem w_isP (F : ExF K mg) (he : e ∈ exTabA) (h : HeldS K p H e y dd) {C : Str} (hC : C ∈ exLeaf ++ exBase) (q : Q (.bl (exIs e C)) H) : rIsP K p.1 (He.ga K e.1) dd [.ref p.1, .ref (He.ga K C)] H Q := ⟨_, _, _, rfl, .own _, h.dx, F.kit e he C hC, q⟩
theorem w_isPb (F : ExF K mg) (he : e ∈ exTabA) (h : HeldS K p H e y dd) {T : String} {b : Bool} (hT : PySem.W.kitOne K (.ref (He.ga K e.1)) (.type T) = some b) (q : Q (.bl b) H) : rIsP K p.1 (He.ga K e.1) dd [.ref p.1, .ty T] H Q := ⟨_, _, _, rfl, .ty T, h.dx, hT, q⟩
theorem kitAny_of (F : ExF K mg) (he : e ∈ exTabA) : ∀ {cs : List Str}, (∀ C ∈ cs, C ∈ exLeaf ++ exBase) → PySem.W.kitAny K (.ref (He.ga K e.1)) (cs.map fun C => Value.ref (He.ga K C)) = some (cs.any (exIs e))
  | [], _ => kitAny_nil
  | C :: cs, h => by
    have i := kitAny_of F he (cs := cs) fun D hD => h D (List.mem_cons_of_mem _ hD)
    refine kitAny_cons (F.kit e he C (h C List.mem_cons_self)) (fun hb => ?_) fun hb => ?_
    · rw [i, List.any_cons, hb, Bool.false_or]
    · rw [List.any_cons, hb, Bool.true_or]
theorem cls_pairs (K : PySem.W.Frag) : ∀ cs : List Str, Paired ClsV (cs.map fun C => V.ref (He.ga K C)) (cs.map fun C => Value.ref (He.ga K C))
  | [] => .nil
  | _ :: cs => .cons (.own _) (cls_pairs K cs)
theorem w_isPT (F : ExF K mg) (he : e ∈ exTabA) (h : HeldS K p H e y dd) {tp : Addr} {cs : List Str} (hT : H tp = some (.tup (cs.map fun C => V.ref (He.ga K C)))) (hC : ∀ C ∈ cs, C ∈ exLeaf ++ exBase) (q : Q (.bl (cs.any (exIs e))) H) : rIsPT K p.1 (He.ga K e.1) dd [.ref p.1, .ref tp] H Q :=
  ⟨tp, _, _, _, rfl, hT, cls_pairs K cs, h.dx, kitAny_of F he hC, q⟩
theorem held_same {H' : Hp} (s : Same H H') (h : HeldS K p H e y dd) : HeldS K p H' e y dd := ⟨h.1, h.2.1, h.2.2.same s⟩
end
theorem boot_LookupError : bootBuiltins "LookupError" = some (.type "LookupError") := by decide +kernel
theorem boot_ArithmeticError : bootBuiltins "ArithmeticError" = some (.type "ArithmeticError") := by decide +kernel
theorem u66H {k : Nat} {A : Around} (r : RoomH k A) : A.units + 66 < cLine := by have := r.un; omega
theorem k_isP {X : Cx} {p : Addr × Obj} {D : Addr} {dd : Option Addr} (K : PySem.W.Frag) (C : ExcC K D) (hh : Held X p D dd) (h : X.K = K := by rfl) : CallR X (.builtin "isinstance") (rIsP K p.1 D dd) := by subst h; exact call_isP C hh
theorem k_isPT {X : Cx} {p : Addr × Obj} {D : Addr} {dd : Option Addr} (K : PySem.W.Frag) (C : ExcC K D) (hh : Held X p D dd) (h : X.K = K := by rfl) : CallR X (.builtin "isinstance") (rIsPT K p.1 D dd) := by subst h; exact call_isPT C hh
theorem k_xp {X : Cx} {p : Addr × Obj} {D : Addr} {dd : Option Addr} {e : Expr} {te : TE} {pos : Pos} {n : Str} (K : PySem.W.Frag) (T : XfC K D) (hno : PySem.W.findIn K (.ref D) n = some none) (hh : Held X p D dd) (he : PE X e te) (h : X.K = K := by rfl) (hb : attributeBase e n X.env (eval e X.env) = eval e X.env := by rfl) :
    PE X (.Attribute e n pos) (tXp p.1 dd n te) := by subst h; exact pe_xp T hno hh he hb
theorem boot_ValueError : bootBuiltins "ValueError" = some (.type "ValueError") := by decide +kernel
theorem ex_fld : ∀ e ∈ exTabA, ∀ c ∈ exTabA, exIs e c.1 = true → e.2.1 = c.2.1 := by decide +kernel
theorem lk_self (f : Str) (y : V) : ([(f, y)] : List (Str × V)).lookup f = some y := by simp [List.lookup]
def exOth : List Str := ["InvalidName", "InvalidTimes", "InvalidText", "InvalidNumber", "InvalidSlots", "InvalidSize", "InvalidLine"]
theorem ex_oth : ∀ e ∈ exTabA, exOth.contains e.1 = true → exIs e "InvalidName" = false → exIs e "InvalidTimes" = false → exIs e "InvalidText" = false → exIs e "InvalidNumber" = false → exIs e "InvalidSlots" = false → exIs e "InvalidSize" = false → exIs e "InvalidLine" = true := by decide +kernel
theorem ex_none : ∀ e ∈ exTabA, e.2.1 = "" → exIs e "InvalidLine" = false := by decide +kernel
theorem ex_first : ∀ e ∈ exTabA, (["InvalidCounts", "InvalidSummary", "InvalidOrder", "InvalidPlan"] : List Str).any (exIs e) = true → e.2.1 = "index" := by decide +kernel
theorem ex_second : ∀ e ∈ exTabA, (["InvalidIndex", "InvalidAction"] : List Str).any (exIs e) = true → e.2.1 = "index" := by decide +kernel
theorem ex_cap : ∀ e ∈ exTabA, (["InvalidCapacity", "CapacitiesDiffer"] : List Str).any (exIs e) = true → e.2.1 = "capacity" := by decide +kernel
theorem ex_many : ∀ e ∈ exTabA, (["TooManyNames", "TooManyActions"] : List Str).any (exIs e) = true → e.2.1 = "found" := by decide +kernel
theorem ex_rest : ∀ e ∈ exTabA, (["InvalidCounts", "InvalidSummary", "InvalidOrder", "InvalidPlan"] : List Str).any (exIs e) = false → (["InvalidIndex", "InvalidAction"] : List Str).any (exIs e) = false → exIs e "NotASummary" = false → (["InvalidCapacity", "CapacitiesDiffer"] : List Str).any (exIs e) = false → (["TooManyNames", "TooManyActions"] : List Str).any (exIs e) = false → exOth.contains e.1 = true ∨ e.2.1 = "" := by decide +kernel
def spFieldsO (K : PySem.W.Frag) : Addr × Obj → Sp := fun p vs H Q _ => ∃ (e : ExE) (y : V) (dd : Option Addr), vs = [.ref p.1] ∧ e ∈ exTabA ∧ HeldS K p H e y dd ∧ (exOth.contains e.1 = true ∨ e.2.1 = "") ∧ ∀ l H', Same H H' → H' l = some (.lst (fldL y dd)) → Q (.ref l) H'
theorem w_xp {a : Addr} {do_ : Option Addr} {f : Str} {te : TE} {σ : L2.St} {H : Hp} {Q : VK} (h : te σ H fun x H1 => x = .ref a ∧ ∃ (dd : Addr) (fs : List (Str × V)) (v : V), do_ = some dd ∧ H1 dd = some (.xd fs) ∧ fs.lookup f = some v ∧ Q v H1) : tXp a do_ f te σ H Q := h
end TP
namespace TP
open PySem PySem.Spec PyProof.Rows L2
def rCntF (K : PySem.W.Frag) : V → List V → Hp → VK → Prop := fun x xs H Q => ∃ (a : Addr) (ys : List V) (y : V), x = .ref a ∧ xs = [y] ∧ SqL K H a ys ∧ flatV y = true ∧ ys.all flatV = true ∧ Q (.int (ys.countP (fun z => eqV z y) : Nat)) H
theorem eqU_count {y : V} : ∀ {ys : List V} {us : List Value}, Vals ys us → ys.all flatV = true → us.countP (eqU y) = ys.countP fun z => eqV z y
  | _, _, .nil, _ => rfl
  | z :: ys, u :: us, .cons r rs, h => by
    rw [List.all_cons, Bool.and_eq_true] at h
    rw [List.countP_cons, List.countP_cons, eqU_count rs h.2, eqU_of r h.1]
theorem mt_countF {X : Cx} : MtR X "list.count" (rCntF X.K) := by
  intro pins s σ H x xs v us Q I rx rxs h
  obtain ⟨a, ys, y, rfl, rfl, hs, fy, fys, q⟩ := h
  cases rx
  cases rxs with
  | cons ry rt =>
    rename_i uy ut
    cases rt
    obtain ⟨its, rv, ⟨⟨cls, dd, data, sl⟩, n, ho, hc, hdn, hd⟩, hlen⟩ := I.list hs
    simp only at hc hd
    subst hc hd
    refine call_meets PySem.F.slot_list_count ⟨_, ho, rfl⟩ PySem.F.entry_list_count (PySem.F.args_list_count_2 _ _)
      (SeqAt.list_countAt a its.toArray n dd sl uy (eqU y)) ⟨ho, fun u' hu' => mem_eqAt ry fy rv fys u' (by simpa using hu'), ?_⟩
    have ec : its.toArray.toList.countP (eqU y) = ys.countP fun z => eqV z y := by
      rw [List.toList_toArray]; exact eqU_count rv fys
    refine ⟨.int (ys.countP (fun z => eqV z y) : Nat), H, I.tok _, ⟨s.toks, ?_⟩, q⟩
    show Value.int ((its.toArray.toList.countP (eqU y) : Nat) : Int) s.toks = _
    rw [ec]
theorem k_countF {X : Cx} (K : PySem.W.Frag) (h : X.K = K := by rfl) : MtR X "list.count" (rCntF K) := by subst h; exact mt_countF
theorem k_index {X : Cx} (K : PySem.W.Frag) (h : X.K = K := by rfl) : MtR X "list.index" (rIndex K) := by subst h; exact mt_index
theorem w_catG {H : Hp} {Q : VK} {l b : Addr} {xs zs : List V} (h1 : H l = some (.lst xs)) (h2 : H b = some (.lst zs)) (hz : xs.length + zs.length ≤ sizeLine) (h : ∀ p G, Same H G → G p = some (.lst (xs ++ zs)) → Q (.ref p) G) : rCat (.ref l) (.ref b) H Q := w_cat h1 h2 hz fun p hp => h p _ (same_new hp) upd_same
theorem w_allocLG {H : Hp} {Q : VK} {xs : List V} (hz : xs.length.ble 100000 = true) (h : ∀ p G, Same H G → G p = some (.lst xs) → Q (.ref p) G) : AllocL xs H Q := w_allocL hz fun p hp => h p _ (same_new hp) upd_same
def exAt (e : ExE) : Nat := exLeaf.findIdx (exIs e)
def exBls (e : ExE) : List V := exLeaf.map fun C => V.bl (exIs e C)
theorem ex_cnt : ∀ e ∈ exTabA, (exBls e).countP (fun z => eqV z (.bl true)) = 1 := by decide +kernel
theorem ex_flat (e : ExE) : (exBls e).all flatV = true := by
  unfold exBls
  rw [List.all_map]
  exact List.all_eq_true.mpr fun C _ => rfl
theorem ex_hit : ∀ e ∈ exTabA, exAt e < 20 ∧ (exLeaf.map (exIs e))[exAt e]? = some true := by decide +kernel
theorem ex_miss : ∀ e ∈ exTabA, ((exLeaf.map (exIs e)).take (exAt e)).all (fun b => !b) = true := by decide +kernel
def exWords : Str := "capacity name times counts summary order plan text size number slots index action line notsummary differ busy undo names actions"
theorem ex_word : ∀ e ∈ exTabA, (Txt.split exWords " ")[exAt e]? = some e.2.2 := by decide +kernel
theorem ex_bases : ∀ e ∈ exTabA, exIs e "TallyError" = decide (((exAt e : Nat) : Int) < 15) ∧ exIs e "StateError" = (decide (14 < ((exAt e : Nat) : Int)) && decide (((exAt e : Nat) : Int) < 18)) ∧ exIs e "SizeError" = decide (17 < ((exAt e : Nat) : Int)) := by decide +kernel
end TP
namespace TP
open PySem PySem.Spec PyProof.Rows L2 LamX
theorem Same.x {H H' : Hp} (s : Same H H') : ExtN H H' := ExtN.of s
theorem sql_x {K : PySem.W.Frag} {H H' : Hp} {a : Addr} {xs : List V} (s : ExtN H H') (h : SqL K H a xs) : SqL K H' a xs := by
  rcases h with (h | ⟨o, h⟩) | h
  · exact .inl (.inl (s _ _ h nofun))
  · exact .inl (.inr ⟨o, s _ _ h nofun⟩)
  · exact .inr h
theorem sqt_x {K : PySem.W.Frag} {H H' : Hp} {a : Addr} {xs : List V} (s : ExtN H H') (h : SqT K H a xs) : SqT K H' a xs := by
  rcases h with (h | ⟨o, h⟩) | h
  · exact .inl (.inl (s _ _ h nofun))
  · exact .inl (.inr ⟨o, s _ _ h nofun⟩)
  · exact .inr h
mutual
theorem dp_x {K : PySem.W.Frag} {H H' : Hp} (s : ExtN H H') : ∀ {v : V} {d : PyData}, Dp K H v d → Dp K H' v d
  | _, _, .non => .non
  | _, _, .bl b => .bl b
  | _, _, .int i => .int i
  | _, _, .str x => .str x
  | _, _, .lst h r => .lst (sql_x s h) (dps_x s r)
  | _, _, .tup h r => .tup (sqt_x s h) (dps_x s r)
theorem dps_x {K : PySem.W.Frag} {H H' : Hp} (s : ExtN H H') : ∀ {vs : List V} {ds : List PyData}, DpAll K H vs ds → DpAll K H' vs ds
  | _, _, .nil => .nil
  | _, _, .cons h r => .cons (dp_x s h) (dps_x s r)
end
theorem sum_x {K : PySem.W.Frag} {H H' : Hp} {v : V} {c : Int} {ps : Bag} (s : ExtN H H') (h : SumO K H v c ps) : SumO K H' v c ps := by
  obtain ⟨a, dx, b, rfl, h1, h2⟩ := h
  exact ⟨a, dx, b, rfl, s _ _ h1 nofun, dp_x s h2⟩
theorem lst_x {H H' : Hp} {a : Addr} {xs : List V} (s : ExtN H H') (h : H a = some (.lst xs)) : H' a = some (.lst xs) := s _ _ h nofun
theorem dk_x {H H' : Hp} {a : Addr} {kvs : List (Key × V)} (s : ExtN H H') (h : H a = some (.dK kvs)) : H' a = some (.dK kvs) := s _ _ h nofun
theorem pool_x {H H' : Hp} {p : Addr} (s : ExtN H H') (h : H p = some (poolO p)) : H' p = some (poolO p) := s _ _ h fun ps z => by unfold poolO at z; cases z
theorem tabs_upd {T : List (Addr × Str)} {H : Hp} {D : Addr} {xs ys : List V} (t : Tabs T H) (hD : H D = some (.lst xs)) : Tabs T (upd H D (.lst ys)) := fun p hp => by
  obtain ⟨ps, h1, h2, h3⟩ := t p hp
  refine ⟨ps, ?_, h2, fun pos cv hc => ?_⟩
  · rw [upd_ne (fun z => by rw [z, hD] at h1; cases h1)]; exact h1
  · obtain ⟨c, e1, e2⟩ := h3 pos cv hc
    exact ⟨c, e1, by rw [upd_ne (fun z => by rw [z, hD] at e2; cases e2)]; exact e2⟩
theorem x_mut {H H' : Hp} {D : Addr} {o : HO} (s : ExtN H H') (hD : H D = none) : ExtN H (upd H' D o) := fun b u e n => by
  rw [upd_ne (fun z => by rw [z, hD] at e; cases e)]; exact s b u e n
section
variable {J : It} {n : Nat} {G : Hp → Prop} {Y : Nat → Hp → V → Hp → Prop} {g : TG} {te : TE} {vs : List Nat} {σ : L2.St} {H1 : Hp} {D : Addr} {Q : VK}
theorem lc_mapX (w : Walk J n G Y) (T : List (Addr × Str)) (hn : n ≤ 100000) (f : Nat → V → Prop) (hD : H1 D = none) (hT : Tabs T H1) (hG : ∀ H, ExtN H1 H → G H)
    (hs : ∀ i x H H', i < n → ExtN H1 H → Tabs T H → Y i H x H' → ∀ Qy : VK, (∀ y H4, ExtN H H4 → Tabs T H4 → f i y → Qy y H4) → g x (wipe σ vs) H' fun σ2 H2 => wipe σ2 vs = wipe σ vs ∧ te σ2 H2 Qy)
    (hd : ∀ acc H, ExtN H1 H → Tabs T H → H D = some (.lst acc) → acc.length = n → (∀ i y, acc[i]? = some y → f i y) → Q (.ref D) H)
    (mono : ∀ {x σ H} {Q Q' : L2.St → Hp → Prop}, (∀ σ H, Q σ H → Q' σ H) → g x σ H Q → g x σ H Q') : LcOk J g tYes te vs σ H1 D Q := by
  refine lc_it w (fun i H => ∃ acc, ExtN H1 H ∧ Tabs T H ∧ H D = some (.lst acc) ∧ acc.length = i ∧ ∀ (j : Nat) (y : V), acc[j]? = some y → f j y) ⟨[], Same.x (same_new hD), hT.ext (same_new hD), upd_same, rfl, fun j y e => by simp at e⟩ (fun i H _ ⟨_, s, _⟩ => hG H s) (fun i x H H' hi ⟨acc, s, t, e, l, a⟩ hy => ?_) fun H ⟨acc, s, t, e, l, a⟩ => hd acc H s t e l a
  refine mono (fun σ2 H2 q => ⟨q.1, w_yes (w_iteT q.2)⟩) (hs i x H H' hi s t hy _ fun y H4 s4 t4 fy => ?_)
  have e4 := lst_x s4 e
  refine ⟨acc, e4, sz_lt (by omega), acc ++ [y], x_mut (s.trans s4) hD, tabs_upd t4 e4, upd_same, by simp [l], fun j z ej => ?_⟩
  by_cases q : j < acc.length
  · rw [List.getElem?_append_left q] at ej; exact a j z ej
  · rw [List.getElem?_append_right (Nat.le_of_not_lt q)] at ej
    have q2 : j = acc.length := by
      obtain ⟨h1, _⟩ := List.getElem?_eq_some_iff.mp ej
      simp at h1; omega
    subst q2
    simp at ej
    subst ej
    rw [l]; exact fy
end
end TP
namespace TP
open PySem PySem.Spec PyProof.Rows L2 LamX
section
variable {X : Cx} {pins : List (Addr × Obj)} {σ : L2.St} {H HZ : Hp} {s s1 : Shared}
theorem pe_actG {CXg : CXT} {Eg : XK} {Ng : List Str} {qg : Str} {sg : Scope} {g f c' : Addr} {cdg pm ctv : Value} {params : Arguments} {body : Expr} {scope : Scope} {k i : Nat} {a : Str} {pn : List (Addr × Obj)} {xe : Value → Shared → Prop} {W : WX} {E : XK} {tb : TE} {p1 p2 : Pos}
    (I : Inv X pins σ H s) (L : LamS X.env.scope scope) (hf : s.heap.get? f = some (PySem.W.kla_obj "<lambda>" (X.env.qual ++ "<lambda>") params body scope (cloFrom X.env.cells scope.names []) pm c' ctv)) (hfn : H f = none) (hfr : f ∉ frs X.stack)
    (hbind : bindArgs (PySem.W.kla_fn "<lambda>" (X.env.qual ++ "<lambda>") params body scope (cloFrom X.env.cells scope.names []) pm (.ref c') ctv) ⟨[], []⟩ = pure [])
    (tk : Takes ((cxOf CXg X.prog X.w X.K X.mg X.base Ng qg sg g cdg X.A X.stack s H Eg).tr pn xe) W) (hW : ∀ cls d σ' H', E cls d H' → W cls d σ' H') (hgX : X.A.guards = some []) (hr : Room (k + 1) (X.A.deeper (envOfC qg sg s.heap.objs.size g cdg)))
    (hbody : ∀ (A : Around) (outer : List Env) (s : Shared) (H : Hp), A.guards = some [] → Room k (A.deeper (lamEnv X scope s.heap.objs.size f c')) → PE (lamCx X A outer s H E scope f c') body tb)
    (hN : Ng[i]? = some a) (hv : Vis sg a) (hd : (a == ("__debug__" : Str)) = false := by decide) (hcd : (a == ("__classdict__" : Str)) = false := by decide) :
    PE ((cxOf CXg X.prog X.w X.K X.mg X.base Ng qg sg g cdg X.A X.stack s H Eg).tr pn xe) (.Call (.Name a p1) [] [] p2)
      (fun σZ HZ Q => σZ[i]? = some (some (.ref f)) ∧ HZ c' = some (CodeO c' (X.env.qual ++ "<lambda>")) ∧ tb σ HZ Q) := by
  refine ⟨fun pinsZ sZ σZ HZ Q IZ h => ?_⟩
  obtain ⟨hs, hc, ht⟩ := h
  refine wpAny_Call_Name_kw (thn ((pe_var (pos := p1) (i := i) hN hv hd hcd).run pinsZ sZ σZ HZ (fun v H1 => v = .ref f ∧ H1 = HZ) IZ ⟨.ref f, hs, rfl, rfl⟩) fun u s1 ⟨v, H1, I1, r1, q1⟩ => ?_)
  obtain ⟨ev, eH⟩ := q1
  subst ev
  rw [eH] at I1
  obtain rfl : u = Value.ref f := r1
  have of1 : s1.heap.get? f = some (PySem.W.kla_obj "<lambda>" (X.env.qual ++ "<lambda>") params body scope (cloFrom X.env.cells scope.names []) pm c' ctv) := I1.base.keep f _ hf hfn hfr (fun z => nomatch (show f ∈ ([] : List Addr) from z))
  refine PySem.W.callWith_F0 ⟨_, _, _, _, of1⟩ ?_
  have un : Un (frs X.stack) [] H HZ s.heap s1.heap := I1.base
  obtain ⟨⟨oc, vs, t, hoc, hdc, hvc⟩, _, _⟩ := I1.hok c' _ hc
  have rc : codeAny (model X.prog X.w) (X.A.deeper (envOfC qg sg s.heap.objs.size g cdg)) (.call (.ref f) ⟨[], []⟩) (CR (L2.CX X.prog X.w) (envOfC qg sg s.heap.objs.size g cdg :: X.stack) X.prog X.w HZ s1 Q E) s1 := by
    refine PySem.W.kla_callFunE hr.depth of1 rfl L.co L.gen rfl ⟨c', oc, vs, t, rfl, hoc, hdc, hvc⟩ ?_
    rw [hbind]
    refine wpAny_pure (wpAny_newFunctionEnv (fun y hy => (L.own y hy).2) (fun y hy => absurd hy (by simp)) (fun h₁ hns hsb => ⟨I1.nolimit.fresh _ hsb, ?_⟩) L.kind)
    show codeAny _ _ (.expr body (lamEnv X scope s1.heap.objs.size f c')) _ _
    have kp : ∀ b o, s1.heap.get? b = some o → h₁.get? b = some o := fun b o e => hsb.extBut b o (Nat.ne_of_lt (Heap.lt_size e)) (Heap.get?_push_of_some _ e)
    have J : Inv (lamCx X (X.A.deeper (envOfC qg sg s.heap.objs.size g cdg)) (envOfC qg sg s.heap.objs.size g cdg :: X.stack) s1 HZ E scope f c') [] σ HZ { s1 with heap := h₁, toks := s1.toks + ([] : List (Str × Value)).length } :=
      lam_start2 I L I1.env0 hr.hd un hns kp
    refine PySem.W.kla_codeExpr (wpAny_mono ((hbody _ _ s1 HZ (show (X.A.deeper (envOfC qg sg s.heap.objs.size g cdg)).guards = some [] from hgX) (hr.deeper _)).run [] _ _ HZ Q J ht) (fun v s' hq => ?_) fun e s' hq => hq)
    obtain ⟨w', H', J', rv, q⟩ := hq
    exact ⟨w', H', J'.os, J'.bare, J'.base, J'.hok, rv, q⟩
  have hx : Passes (L2.CX X.prog X.w) ((cxOf CXg X.prog X.w X.K X.mg X.base Ng qg sg g cdg X.A X.stack s H Eg).tr pn xe) E := passes_call tk hW
  refine wpAny_call (codeAny_mono rc fun r s' hq => ?_)
  cases r with
  | error e => exact hx pinsZ σZ HZ s1 e s' I1 hq
  | ok fl =>
    cases fl with
    | ret u => exact I1.after hq
    | next => exact False.elim hq
    | brk => exact False.elim hq
    | cont => exact False.elim hq
end
section
variable {X : Cx}
theorem pe_lamcallG {T : List (Addr × Str)} {TT : (XK → Hp → VK → Prop) → Hp → VK → Prop} {x a : Str} {g c P : Addr} {k : Nat} {pg : Arguments} {bg : List Stmt} {sg : Scope} {dV kV doc pm cdv ct oc : Value} {an od : Option Addr} {osl : Array (Option Value)} {Ng : List Str}
    {params : Arguments} {body : Expr} {scope : Scope} {t : XK → TE} {p lpos pos : Pos} (hg : Gl X x) (hm : X.mg x = some (.ref g)) (hk : PySem.W.keepIn X.K (.ref g) = true)
    (lk : X.K.lookup g = some ⟨oc, od, .func (PySem.W.fnOf x x pg bg sg dV kV doc pm an cdv ct), osl⟩) (hcg : PySem.W.codeIn X.K cdv x = true) (hb : L2.Binds X.K (PySem.W.fnOf x x pg bg sg dV kV doc pm an cdv ct) [a] []) (Sg : FnScope Ng [a] sg) (hNg : Ng[0]? = some a) (hva : Vis sg a)
    (hG : GivesTo X Ng x sg g cdv bg a (X.env.qual ++ "<lambda>") TT)
    (TB : TabB X.base X.mg c P) (hcode : X.env.code = .ref c) (hmT : (P, X.env.qual ++ "<lambda>") ∈ T) (hu : ∀ p ∈ T, p.1 = P → p.2 = X.env.qual ++ "<lambda>") (hgX : X.A.guards = some []) (hr : Room (k + 2) X.A) (L : LamS X.env.scope scope) (hdef : defaultsOf params X.env = ([], []))
    (hbind : ∀ (q : Str) (cl : List (Str × Addr)) (pm cv ctv : Value), bindArgs (PySem.W.kla_fn "<lambda>" q params body scope cl pm cv ctv) ⟨[], []⟩ = pure [])
    (hbody : ∀ (A : Around) (outer : List Env) (s : Shared) (H : Hp) (E : XK) (f c' : Addr), A.guards = some [] → Room k (A.deeper (lamEnv X scope s.heap.objs.size f c')) → PE (lamCx X A outer s H E scope f c') body (t E))
    (hdb : (x == ("__debug__" : Str)) = false := by decide) (hd : (a == ("__debug__" : Str)) = false := by decide) (hcd : (a == ("__classdict__" : Str)) = false := by decide) :
    PE X (.Call (.Name x p) [.Lambda params body scope lpos] [] pos) (tLam T TT t) := by
  refine ⟨fun pins s σ H Q I h => ?_⟩
  obtain ⟨hT, h⟩ := h
  refine wpAny_Call_Name_kw (ld_glob I hg hm ?_ hdb)
  refine PySem.W.callWith_K (h₀ := X.base) I.ok.mod.kin hk ?_ (by rfl) (by rfl)
  show wpAny _ _ (spliced ((false, eval (.Lambda params body scope lpos) X.env) :: backTo pos (starEach [] X.env))) _ _ s
  refine Calls.spliced_cons (lam_make2 I TB hcode hmT hu hT hdef (L.has I.ok) fun f c' pm' ctv H1 s' I1 eN T1 hf hfn hfr hco => ?_)
  refine Calls.spliced_nil ⟨I1.kIn, ?_⟩
  have rc : codeAny (model X.prog X.w) X.A (.call (.ref g) ⟨[.ref f], []⟩) (CR C8.CX0 X.stack X.prog X.w H1 s' Q C8.E0) s' := by
    refine run_ofS (N := Ng) (ps := [a]) (us := [.ref f]) (vs := [.ref f]) lk hcg Sg hr I1.env0 (hb s' [.ref f] I1.kIn rfl) (.cons rfl .nil) rfl fun hr' => ?_
    obtain ⟨t', ht', hq'⟩ := hG f c' s' H1 Q (fun E H' Q' => t E σ H' Q') (fun W pn xe E p1 p2 tk hW => pe_actG (i := 0) I1 L hf hfn hfr (hbind _ _ _ _ _) tk hW hgX hr' (fun A outer s H hg2 hr2 => hbody A outer s H E f c' hg2 hr2) hNg hva hd hcd) hco (h H1 eN T1)
    exact ⟨t', ht'.nox, hq'⟩
  refine wpAny_call (codeAny_mono rc fun r s2 hq => ?_)
  cases r with
  | error e => exact (show False from hq).elim
  | ok fl =>
    cases fl with
    | ret u => exact I1.after hq
    | next => exact False.elim hq
    | brk => exact False.elim hq
    | cont => exact False.elim hq
end
theorem pe_caught {X : Cx} {T : List (Addr × Str)} {P c : Addr} {k : Nat} {stc : Stmt} {params : Arguments} {body : Expr} {scope : Scope} {t : XK → TE} {p lpos pos : Pos} {qq : Str}
    (D : Dfd X.K X.mg "_law_caught" stc) (Sg : FnScope ["_law_call", "_law_e"] ["_law_call"] (defScope stc)) (pb : PosB "_law_caught" stc ["_law_call"]) (hva : Vis (defScope stc) "_law_call") (hg : Gl X "_law_caught")
    (hG : ∀ cdv, GivesTo X ["_law_call", "_law_e"] "_law_caught" (defScope stc) (He.ga X.K "_law_caught") cdv (defBody stc) "_law_call" qq (TCaught X.K))
    (TB : TabB X.base X.mg c P) (hcode : X.env.code = .ref c) (hmT : (P, qq) ∈ T) (hu : ∀ p ∈ T, p.1 = P → p.2 = qq) (hq : X.env.qual ++ "<lambda>" = qq) (hgX : X.A.guards = some []) (hr : Room (k + 2) X.A) (L : LamS X.env.scope scope) (hdef : defaultsOf params X.env = ([], []))
    (hbind : ∀ (q : Str) (cl : List (Str × Addr)) (pm cv ctv : Value), bindArgs (PySem.W.kla_fn "<lambda>" q params body scope cl pm cv ctv) ⟨[], []⟩ = pure [])
    (hbody : ∀ (A : Around) (outer : List Env) (s : Shared) (H : Hp) (E : XK) (f c' : Addr), A.guards = some [] → Room k (A.deeper (lamEnv X scope s.heap.objs.size f c')) → PE (lamCx X A outer s H E scope f c') body (t E)) :
    PE X (.Call (.Name "_law_caught" p) [.Lambda params body scope lpos] [] pos) (tLam T (TCaught X.K) t) := by
  subst hq
  obtain ⟨fd, F⟩ := D.ex
  have kp := FunD.kp F
  obtain ⟨oc, od, dV, kV, doc, pm, an, cdv, ct, osl, rfl, lk, hcd, _, _⟩ := F.ex
  obtain ⟨kV2, doc2, pm2, an2, cdv2, ct2, efd⟩ := FunD.noDef F
  refine pe_lamcallG hg D.glo kp lk hcd (Binds.all fun us hl => ?_) Sg rfl hva (hG cdv) TB hcode hmT hu hgX hr L hdef hbind hbody
  rw [efd]
  exact pb kV2 doc2 pm2 an2 cdv2 ct2 us hl
end TP
namespace TP
open PySem PySem.Spec PyProof.Rows L2 LamX
theorem takesL {X : Cx} {A : Around} {outer : List Env} {s : Shared} {H : Hp} {E : XK} {scope : Scope} {f c' : Addr} : Takes (lamCx X A outer s H E scope f c') (fun cls d _ H' => E cls d H') := takes_of rfl rfl rfl rfl
theorem w_told {H : Hp} {Q : VK} {v : V} (h : ∀ p H', Same H H' → H' p = some (.lst [.str "returned", v]) → Q (.ref p) H') : LstC [.str "returned", v] H Q := ⟨by show 2 ≤ sizeLine; rw [sizeLine_eq]; decide, fun p hp => h p _ (same_new hp) upd_same⟩
theorem w_held {K : PySem.W.Frag} {H : Hp} {Q : VK} {C f wd : Str} {y : V} {dd : Addr} (he : (C, f, wd) ∈ exTab) (hd : H dd = some (.xd [(f, y)])) (h : ∀ l H', Same H H' → H' l = some (.lst [.str wd, y]) → Q (.ref l) H') : CaughtC K (.ref (He.ga K C)) (some dd) H Q := ⟨(C, f, wd), y, some dd, exTab_a he, rfl, rfl, ⟨exTab_f _ he, hd⟩, h⟩
theorem x_mut2 {H He H' : Hp} {R : Addr} {o : HO} (s : ExtN H H') (h0 : ExtN H He) (hR : He R = none) : ExtN H (upd H' R o) := fun b u e n => by
  rw [upd_ne (fun z => by
    rw [z] at e
    have h1 := h0 _ _ e n
    rw [hR] at h1
    cases h1)]
  exact s b u e n
section
variable {P : Program} {w : World} {K : PySem.W.Frag} {mg : Str → Option Value} {base : Heap} {CX : CXT} {k : Nat} {x : Str} {st : Stmt} {N ps : List Str} {sp : Sp}
theorem Dfd.hasL (D : Dfd K mg x st) (S : FnScope N ps (defScope st)) (len : ∀ vs H Q E, sp vs H Q E → vs.length = ps.length)
    (hbody : ∀ (cdv : Value) (A : Around) (outer : List Env) (s : Shared) (H : Hp) (vs : List V) (Q : VK) (E : XK), cdv = .ref (He.cT K (x, none)).1 → Room k (A.deeper (envOfC x (defScope st) s.heap.objs.size (He.ga K x) cdv)) → (A.deeper (envOfC x (defScope st) s.heap.objs.size (He.ga K x) cdv)).guards = some [] → sp vs H Q E →
      ∃ t, PSs (cxOf CX P w K mg base N x (defScope st) (He.ga K x) cdv A outer s H E) (defBody st) t ∧ t { nx := fun _ H' => Q .non H', rt := Q } (L2.start N vs) H) :
    Has P w K mg base CX (k + 1) x st ps sp := by
  obtain ⟨fd, F⟩ := D.ex
  refine ⟨⟨fd, F, ?_⟩, D.glo⟩
  obtain ⟨oc, od, dV, kV, doc, pm, an, cdv, ct, osl, rfl, lk, hcd, _, _⟩ := F.ex
  have hc1 : cdv = .ref (He.cT K (x, none)).1 := by
    obtain ⟨c, e⟩ := He.codeIn_ref hcd
    subst e
    exact congrArg Value.ref (He.codeOf_eq (p := (x, none)) lk rfl).symm
  refine ⟨len, fun A outer s H args us vs Q E hr hg e0 hb r hsp => ?_⟩
  have hl := len _ _ _ _ hsp
  have kx : K.In s.heap := e0.mod.kin.keeps fun b o e => (e0.bs b o e).1
  have nl : s.heap.NoLimit := e0.mod.nolimit.keeps fun b o e => (e0.bs b o e).1
  refine codeAny_call_function hr.depth (kx _ _ lk) rfl S.co S.gen rfl (PySem.W.codeRec_of kx hcd) (hb _ _ _ _ ?_)
  refine wpAny_newFunctionEnv_cells S.kind (fun ⟨n, v⟩ hy => by
    rcases S.par n (List.of_mem_zip hy).1 with q | q
    · exact .inl q
    · exact .inr ⟨q, PySem.W.cellsFrom_some _ _ _ (.inl q)⟩) fun env he s1 ic => ?_
  subst he
  refine ⟨nl.keeps ic.toInCall.keep, codeAny_func ?_⟩
  obtain ⟨t, ht, hq⟩ := hbody cdv A outer s H vs Q E hc1 (hr.deeper _) hg hsp
  have I0 := L2.inv_start (CX := CX) (E := E) S hr.hd e0 hl r ic
  refine wpAny_mono (ht.run [] s1 (L2.start N vs) H _ I0 hq) (fun fl s' hs => ?_) fun e s' hs => hs
  cases fl with
  | ret u =>
    obtain ⟨v, σ', H', J, rv, q⟩ := hs
    exact ⟨v, H', J.os, J.bare, J.base, J.hok, rv, q⟩
  | next =>
    obtain ⟨σ', H', J, q⟩ := hs
    exact ⟨.non, H', J.os, J.bare, J.base, J.hok, rfl, q⟩
  | brk =>
    obtain ⟨_, _, _, q⟩ := hs
    exact q.elim
  | cont =>
    obtain ⟨_, _, _, q⟩ := hs
    exact q.elim
end
end TP
namespace TP
open PySem PySem.Spec PyProof.Rows L2 LamX
mutual
inductive Dx (K : PySem.W.Frag) (H : Hp) : V → PyData → Prop
  | non : Dx K H .non .none
  | bl (b : Bool) : Dx K H (.bl b) (.bool b)
  | int (i : Int) : Dx K H (.int i) (.int i)
  | str (x : Str) : Dx K H (.str x) (.str x)
  | lst {a : Addr} {xs : List V} {ds : List PyData} : SqL K H a xs → DxAll K H xs ds → Dx K H (.ref a) (.list ds)
  | tup {a : Addr} {xs : List V} {ds : List PyData} : SqT K H a xs → DxAll K H xs ds → Dx K H (.ref a) (.tuple ds)
  | dct {a : Addr} : H a = some (.dK []) → Dx K H (.ref a) (.dict [])
inductive DxAll (K : PySem.W.Frag) (H : Hp) : List V → List PyData → Prop
  | nil : DxAll K H [] []
  | cons {v : V} {vs : List V} {d : PyData} {ds : List PyData} : Dx K H v d → DxAll K H vs ds → DxAll K H (v :: vs) (d :: ds)
end
mutual
theorem dp_dx {K : PySem.W.Frag} {H : Hp} : ∀ {v : V} {d : PyData}, Dp K H v d → Dx K H v d
  | _, _, .non => .non
  | _, _, .bl b => .bl b
  | _, _, .int i => .int i
  | _, _, .str x => .str x
  | _, _, .lst h r => .lst h (dps_dx r)
  | _, _, .tup h r => .tup h (dps_dx r)
theorem dps_dx {K : PySem.W.Frag} {H : Hp} : ∀ {vs : List V} {ds : List PyData}, DpAll K H vs ds → DxAll K H vs ds
  | _, _, .nil => .nil
  | _, _, .cons h r => .cons (dp_dx h) (dps_dx r)
end
mutual
theorem dx_x {K : PySem.W.Frag} {H H' : Hp} (s : ExtN H H') : ∀ {v : V} {d : PyData}, Dx K H v d → Dx K H' v d
  | _, _, .non => .non
  | _, _, .bl b => .bl b
  | _, _, .int i => .int i
  | _, _, .str x => .str x
  | _, _, .lst h r => .lst (sql_x s h) (dxs_x s r)
  | _, _, .tup h r => .tup (sqt_x s h) (dxs_x s r)
  | _, _, .dct h => .dct (dk_x s h)
theorem dxs_x {K : PySem.W.Frag} {H H' : Hp} (s : ExtN H H') : ∀ {vs : List V} {ds : List PyData}, DxAll K H vs ds → DxAll K H' vs ds
  | _, _, .nil => .nil
  | _, _, .cons h r => .cons (dx_x s h) (dxs_x s r)
end
theorem dx_same {K : PySem.W.Frag} {H H' : Hp} (s : Same H H') {v : V} {d : PyData} (h : Dx K H v d) : Dx K H' v d := dx_x (ExtN.of s) h
theorem dxs_same {K : PySem.W.Frag} {H H' : Hp} (s : Same H H') {vs : List V} {ds : List PyData} (h : DxAll K H vs ds) : DxAll K H' vs ds := dxs_x (ExtN.of s) h
section
variable {K : PySem.W.Frag} {H : Hp}
theorem dxs_len : ∀ {vs : List V} {ds : List PyData}, DxAll K H vs ds → vs.length = ds.length
  | _, _, .nil => rfl
  | _, _, .cons _ r => by rw [List.length_cons, List.length_cons, dxs_len r]
theorem dxs_get : ∀ {vs : List V} {ds : List PyData} {i : Nat} {v : V}, DxAll K H vs ds → vs[i]? = some v → ∃ d, ds[i]? = some d ∧ Dx K H v d
  | _, _, i, _, .nil, e => by simp at e
  | _, _, 0, _, .cons h _, e => by simp at e; subst e; exact ⟨_, rfl, h⟩
  | _, _, i + 1, v, .cons _ r, e => by
    obtain ⟨d, h1, h2⟩ := dxs_get (i := i) r (by simpa using e)
    exact ⟨d, by simpa using h1, h2⟩
theorem dxs_app : ∀ {vs ws : List V} {ds es : List PyData}, DxAll K H vs ds → DxAll K H ws es → DxAll K H (vs ++ ws) (ds ++ es)
  | _, _, _, _, .nil, h => h
  | _, _, _, _, .cons a r, h => .cons a (dxs_app r h)
theorem dx_int_inv {v : V} {i : Int} (h : Dx K H v (.int i)) : v = .int i := by cases h; rfl
theorem dx_str_inv {v : V} {x : Str} (h : Dx K H v (.str x)) : v = .str x := by cases h; rfl
theorem dx_tup_inv {v : V} {ds : List PyData} (h : Dx K H v (.tuple ds)) : ∃ a xs, v = .ref a ∧ SqT K H a xs ∧ DxAll K H xs ds := by cases h with | tup h r => exact ⟨_, _, rfl, h, r⟩
theorem dx_lst_inv {v : V} {ds : List PyData} (h : Dx K H v (.list ds)) : ∃ a xs, v = .ref a ∧ SqL K H a xs ∧ DxAll K H xs ds := by cases h with | lst h r => exact ⟨_, _, rfl, h, r⟩
theorem ty_dx {v : V} {d : PyData} (h : Dx K H v d) : TyX K H v (.type (tyD d)) := by
  cases h with
  | non => exact .base .non
  | bl b => exact .base (.bl b)
  | int i => exact .base (.int i)
  | str x => exact .base (.str x)
  | lst h _ =>
    rcases h with (h | ⟨o, h⟩) | ⟨o, its, n, h, c, _⟩
    · exact .base (.lst h)
    · exact .base (.frz h)
    · exact .kList h c
  | tup h _ =>
    rcases h with (h | ⟨o, h⟩) | ⟨o, its, n, h, c, _⟩
    · exact .base (.tup h)
    · exact .fTuple h
    · exact .kTuple h c
  | dct h => exact .base (.dK h)
theorem w_isiX {Q : VK} {v : V} {d : PyData} {T : String} {b : Bool} (h : Dx K H v d) (e : kitB (tyD d) T = some b) (q : Q (.bl b) H) : rIsi K [v, .ty T] H Q := w_isi (ty_dx h) e q
end
def SameM (H H' : Hp) : Prop := ∀ a o, H a = some o → (∀ xs, o ≠ .lst xs) → H' a = some o
theorem SameM.lst {H : Hp} {l : Addr} {xs : List V} {u : HO} (h : H l = some (.lst xs)) : SameM H (upd H l u) := fun a o e n => by
  by_cases z : a = l
  · subst z; rw [h] at e; cases e; exact absurd rfl (n xs)
  · rw [upd_ne z]; exact e
theorem SameM.sqt {K : PySem.W.Frag} {H H' : Hp} {a : Addr} {xs : List V} (s : SameM H H') (h : SqT K H a xs) : SqT K H' a xs := by
  rcases h with (h | ⟨o, h⟩) | h
  · exact .inl (.inl (s _ _ h nofun))
  · exact .inl (.inr ⟨o, s _ _ h nofun⟩)
  · exact .inr h
mutual
def noL : PyData → Bool
  | .list _ => false
  | .tuple ds => noLs ds
  | _ => true
def noLs : List PyData → Bool
  | [] => true
  | d :: r => noL d && noLs r
end
mutual
theorem dx_m {K : PySem.W.Frag} {H H' : Hp} (s : SameM H H') : ∀ {v : V} {d : PyData}, Dx K H v d → noL d = true → Dx K H' v d
  | _, _, .non, _ => .non
  | _, _, .bl b, _ => .bl b
  | _, _, .int i, _ => .int i
  | _, _, .str x, _ => .str x
  | _, _, .lst h r, f => by simp [noL] at f
  | _, _, .tup h r, f => .tup (s.sqt h) (dxs_m s r (by simpa [noL] using f))
  | _, _, .dct h, _ => .dct (s _ _ h nofun)
theorem dxs_m {K : PySem.W.Frag} {H H' : Hp} (s : SameM H H') : ∀ {vs : List V} {ds : List PyData}, DxAll K H vs ds → noLs ds = true → DxAll K H' vs ds
  | _, _, .nil, _ => .nil
  | _, _, .cons h r, f => by
    have f2 := Bool.and_eq_true_iff.mp (show (noL _ && noLs _) = true from f)
    exact .cons (dx_m s h f2.1) (dxs_m s r f2.2)
end
mutual
def rbX : PyData → Nat
  | .none => 5
  | .bool _ => 5
  | .int _ => 1921
  | .str x => 10 * x.length + 2
  | .list ds => rbXs ds + 2
  | .tuple ds => rbXs ds + 3
  | .dict _ => 2
def rbXs : List PyData → Nat
  | [] => 0
  | d :: r => rbX d + 2 + rbXs r
end
mutual
def okX : PyData → Bool
  | .none => true
  | .bool _ => true
  | .int i => decide (i.natAbs.log2 < 1920)
  | .str x => x.cps.toList.all fun c => decide (c < 16 ^ 8)
  | .list ds => okXs ds
  | .tuple ds => okXs ds
  | .dict kvs => kvs.isEmpty
def okXs : List PyData → Bool
  | [] => true
  | d :: r => okX d && okXs r
end
mutual
theorem shown_leX : ∀ d : PyData, okX d = true → d.shown.length ≤ rbX d
  | .none, _ => by simp only [PyData.shown, rbX]; decide
  | .bool b, _ => by cases b <;> simp only [PyData.shown, rbX] <;> decide
  | .int i, h => by
    have h' : i.natAbs.log2 < 1920 := of_decide_eq_true (by simpa [okX] using h)
    simp only [PyData.shown, rbX]
    exact int_text_len_1921 h'
  | .str x, h => by
    simp only [PyData.shown, rbX]
    refine PySem.StrLaws.reprText_len x fun c hc => ?_
    have h' := List.all_eq_true.mp (by simpa only [okX] using h) c hc
    exact of_decide_eq_true h'
  | .list ds, h => by
    have ih := shownAll_leX ds (by simpa [okX] using h)
    simp only [PyData.shown, rbX, listText]
    have h1 := textFrom_le (PyData.shownAll ds) 0 "["
    rw [str_app_len]
    have e1 : (Str.ofString "[").length = 1 := by decide
    have e2 : (Str.ofString "]").length = 1 := by decide
    rw [e1] at h1
    rw [e2]
    omega
  | .tuple ds, h => by
    have ih := shownAll_leX ds (by simpa [okX] using h)
    simp only [PyData.shown, rbX, tupleText]
    rw [str_app_len, str_app_len]
    have h1 := StrLaws.join_length_le (Str.ofString ", ") (PyData.shownAll ds)
    have e0 : (Str.ofString ", ").length = 2 := by decide
    rw [e0] at h1
    have e1 : (Str.ofString "(").length = 1 := by decide
    have e2 : (Str.ofString (if ((PyData.shownAll ds).length == 1) = true then ",)" else ")")).length ≤ 2 := by
      by_cases z : ((PyData.shownAll ds).length == 1) = true
      · rw [if_pos z]; decide
      · rw [if_neg z]; decide
    have e3 : ((PyData.shownAll ds).map fun t => t.length + 2).sum = ((PyData.shownAll ds).map (·.length)).sum + (PyData.shownAll ds).length * 2 := by
      generalize PyData.shownAll ds = l
      induction l with
      | nil => rfl
      | cons a r ih2 => simp only [List.map_cons, List.sum_cons, List.length_cons]; omega
    rw [e1]
    omega
  | .dict [], _ => by simp only [PyData.shown, rbX]; decide
  | .dict (_ :: _), h => by simp [okX] at h
theorem shownAll_leX : ∀ ds : List PyData, okXs ds = true → ((PyData.shownAll ds).map fun t => t.length + 2).sum ≤ rbXs ds
  | [], _ => by simp [PyData.shownAll, rbXs]
  | d :: r, h => by
    have h' := Bool.and_eq_true_iff.mp (show (okX d && okXs r) = true from h)
    have h1 := shown_leX d h'.1
    have h2 := shownAll_leX r h'.2
    simp only [PyData.shownAll, rbXs, List.map_cons, List.sum_cons]
    omega
end
mutual
theorem showable_ofX : ∀ d : PyData, okX d = true → d.showable = true
  | .none, _ => by simp [PyData.showable]
  | .bool b, _ => by simp [PyData.showable]
  | .int i, h => by simp only [PyData.showable]; simpa [okX] using h
  | .str x, _ => by simp [PyData.showable]
  | .list ds, h => by simp only [PyData.showable]; exact showables_ofX ds (by simpa [okX] using h)
  | .tuple ds, h => by simp only [PyData.showable]; exact showables_ofX ds (by simpa [okX] using h)
  | .dict [], _ => by simp [PyData.showable, PyData.showableKv]
  | .dict (_ :: _), h => by simp [okX] at h
theorem showables_ofX : ∀ ds : List PyData, okXs ds = true → PyData.showableAll ds = true
  | [], _ => by simp [PyData.showableAll]
  | d :: r, h => by
    have h' := Bool.and_eq_true_iff.mp (show (okX d && okXs r) = true from h)
    simp [PyData.showableAll, showable_ofX d h'.1, showables_ofX r h'.2]
end
end TP
namespace TP
open PySem PySem.Spec PyProof.Rows L2 LamX
section
variable {X : Cx} {pins : List (Addr × Obj)} {σ : L2.St} {H : Hp} {s : Shared}
theorem dct_reads (I : Inv X pins σ H s) {a : Addr} (h : H a = some (.dK [])) : Reads s.heap (.ref a) (.dict []) (a :: [] ++ []) ∧ sysModules ∉ (a :: [] ++ [] : List Addr) := by
  obtain ⟨_, hsm, vs, hkv, o, es, ep, ho, hx, hd, _, hp, _⟩ := dk_of I.hok h
  have ev : vs = [] := by
    cases hkv
    rfl
  subst ev
  have ee : es.toList = [] := by
    generalize es.toList = l at hp
    cases hp
    rfl
  refine ⟨Reads.dict ho hx.1 hd (by rw [ee]; exact .nil) (by rw [ee]; exact .nil), fun hm => ?_⟩
  have hm : sysModules ∈ [a] := hm
  rw [List.mem_singleton.mp hm] at hsm
  simp at hsm
mutual
theorem Dx.reads (I : Inv X pins σ H s) : ∀ (d : PyData) (v : V) (u : Value), Dx X.K H v d → RelV v u → ∃ as, Reads s.heap u d as ∧ (noL d = true → sysModules ∉ as)
  | .none, _, _, h, r => by
    cases h
    cases r
    exact ⟨_, Reads.none, fun _ => List.not_mem_nil⟩
  | .bool b, _, _, h, r => by
    cases h
    cases r
    exact ⟨_, Reads.bool b, fun _ => List.not_mem_nil⟩
  | .int i, _, _, h, r => by
    cases h
    obtain ⟨t, rfl⟩ := r
    exact ⟨_, Reads.int i t, fun _ => List.not_mem_nil⟩
  | .str x, _, _, h, r => by
    cases h
    obtain ⟨t, rfl⟩ := r
    exact ⟨_, Reads.str x t, fun _ => List.not_mem_nil⟩
  | .list ds, _, _, h, r => by
    cases h with
    | lst hs ha =>
      cases r
      obtain ⟨its, rv, ⟨o, n, ho, hc, _, hd⟩, _⟩ := I.list hs
      obtain ⟨as, hr, _⟩ := Dx.readsAll I ds _ its ha rv
      exact ⟨_, Reads.list ho hc hd hr, fun z => by simp [noL] at z⟩
  | .tuple ds, _, _, h, r => by
    cases h with
    | tup hs ha =>
      cases r
      obtain ⟨its, rv, ⟨o, ho, hc, n, hd⟩, _⟩ := I.tuple hs
      obtain ⟨as, hr, hno⟩ := Dx.readsAll I ds _ its ha rv
      exact ⟨_, Reads.tuple ho hc hd hr, fun z => hno (by simpa [noL] using z)⟩
  | .dict _, _, _, h, r => by
    cases h with
    | dct hd =>
      cases r
      obtain ⟨h1, h2⟩ := dct_reads I hd
      exact ⟨_, h1, fun _ => h2⟩
theorem Dx.readsAll (I : Inv X pins σ H s) : ∀ (ds : List PyData) (vs : List V) (us : List Value), DxAll X.K H vs ds → Vals vs us → ∃ as, ReadsAll s.heap us ds as ∧ (noLs ds = true → sysModules ∉ as)
  | [], _, _, h, r => by
    cases h
    cases r
    exact ⟨_, ReadsAll.nil, fun _ => List.not_mem_nil⟩
  | d :: ds, _, _, h, r => by
    cases h with
    | cons h1 h2 =>
      cases r with
      | cons r1 r2 =>
        obtain ⟨as, q1, n1⟩ := Dx.reads I d _ _ h1 r1
        obtain ⟨bs, q2, n2⟩ := Dx.readsAll I ds _ _ h2 r2
        refine ⟨_, ReadsAll.cons q1 q2, fun z hm => ?_⟩
        have z2 := Bool.and_eq_true_iff.mp (show (noL d && noLs ds) = true from z)
        exact (List.mem_append.mp hm).elim (n1 z2.1) (n2 z2.2)
end
def topL (d : PyData) : Bool := !d.hasDict || match d with
  | .list ds => noLs ds
  | .tuple ds => noLs ds
  | _ => true
structure ShowsX (d : PyData) : Prop where
  ok : okX d = true
  len : rbX d ≤ 16777216
  deep : d.depth ≤ 60
  top : topL d = true
def rReprX (K : PySem.W.Frag) : List V → Hp → VK → Prop := fun xs H Q => ∃ v d, xs = [v] ∧ Dx K H v d ∧ ShowsX d ∧ Q (.str d.shown) H
theorem showsByX (I : Inv X pins σ H s) {a : Addr} {d : PyData} (h : Dx X.K H (.ref a) d) (hk : okX d = true) (ht : topL d = true) (hsz : d.shown.length ≤ sizeLine) : ∃ T idr, ShowsBy X.prog X.w s.heap a d T idr := by
  have hs := showable_ofX d hk
  cases h with
  | lst hq ha =>
    rename_i vs xs
    obtain ⟨its, rv, ⟨o, n, h1, h2, _, h3⟩, _⟩ := I.list hq
    obtain ⟨as, h4, hno⟩ := Dx.readsAll I xs _ its ha rv
    have hz' : (listText (PyData.shownAll xs)).length ≤ sizeLine := by simpa only [PyData.shown] using hsz
    have hx0 : PyData.hasDictAll xs = true → sysModules ∉ as := fun hx => hno (by
      have z : (!(PyData.list xs).hasDict || noLs xs) = true := ht
      rw [show (PyData.list xs).hasDict = true by simpa [PyData.hasDict] using hx] at z
      simpa using z)
    have h4' : ReadsAll s.heap its.toArray.toList xs as := by simpa using h4
    obtain ⟨bs, hb, hkk⟩ := ReprAllK.of_readsAll (prog := X.prog) (w := X.w) h4' (by simpa [PyData.showable] using hs) hx0 fun t ht => Nat.le_trans (listText_mem_le ht) hz'
    have hna : a ∉ bs := not_mem_of_deeper (.list h1 h2 h3 h4') (by simp only [PyData.depth]; omega) hb
    refine ⟨"list", "list.__repr__", F.slot_list_repr.toG, F.slot_list_str, F.slot_list_format, fun s hk0 => ⟨o, hk0 _ _ h1, h2⟩, fun A E s Q hg hu hk0 hQ => ?_⟩
    simp only [PyData.depth] at hu
    simp only [PyData.shown] at hQ
    cases its with
    | nil =>
      cases h4
      simp only [PyData.shownAll, listText_nil] at hQ
      exact call_list_repr_empty ⟨o, hk0 _ _ h1, h2⟩ (hk0 _ _ h1) h3 (hQ s.heap _ _ fun _ _ e => e)
    | cons x l => exact call_list_reprK h1 h2 h3 hna (by simpa using hkk.length_eq) (fun i y e => hkk.item i y (by simpa using e)) hg (fun b _ => Clear.nil b) hu hk0 hQ hz'
  | tup hq ha =>
    rename_i vs xs
    obtain ⟨its, rv, ⟨o, h1, h2, n, h3⟩, _⟩ := I.tuple hq
    obtain ⟨as, h4, hno⟩ := Dx.readsAll I xs _ its ha rv
    have h4' : ReadsAll s.heap its.toArray.toList xs as := by simpa using h4
    refine showsBy_of_reads (Reads.tuple h1 h2 h3 h4') hs (fun hx => hno ?_) hsz
    have z : (!(PyData.tuple xs).hasDict || noLs xs) = true := ht
    rw [hx] at z
    simpa using z
  | dct hd =>
    obtain ⟨h1, h2⟩ := dct_reads I hd
    exact showsBy_of_reads h1 hs (fun _ => h2) hsz
end
theorem call_reprX {X : Cx} (hg : X.A.guards = some []) (hu : X.A.units + 64 < cLine) : CallR X (.builtin "repr") (rReprX X.K) := by
  intro pins s σ H xs us Q I r h
  obtain ⟨v, d, rfl, hd, hs, q⟩ := h
  obtain ⟨u, rfl, ru⟩ := vals1 r
  have hz : d.shown.length ≤ sizeLine := Nat.le_trans (shown_leX d hs.ok) (Nat.le_trans hs.len (by rw [sizeLine_eq]; exact Nat.le_refl _))
  have big : ∀ a, v = .ref a → wpAny (model X.prog X.w) X.A (call (.builtin "repr") [u]) (EP X pins σ Q) X.xe s := fun a e => by
    subst e
    obtain rfl : u = Value.ref a := ru
    obtain ⟨T, idr, S⟩ := showsByX I hd hs.ok hs.top hz
    refine call_repr_slot (by omega) (S.typeIs s fun _ _ e => e) S.slotRepr (S.call X.A.in1 X.xe s _ hg (by have := hs.deep; show X.A.units + 1 + d.depth < cLine; omega) (fun _ _ e => e) fun h' w' tk hk => ⟨_, _, rfl, ?_⟩)
    exact ⟨.str d.shown, H, I.kept (t' := tk) hk, ⟨_, rfl⟩, q⟩
  cases hd with
  | non =>
    have e : u = .none := ru
    subst e
    exact PySem.P.repr_of_none ⟨.str _, H, I.tok _, ⟨_, rfl⟩, q⟩
  | bl b =>
    have e : u = .bool b := ru
    subst e
    refine PySem.P.repr_of_bool ⟨.str _, H, I.tok _, ⟨_, rfl⟩, ?_⟩
    cases b <;> exact q
  | int i =>
    obtain ⟨t, rfl⟩ := ru
    refine PySem.P.repr_of_int ?_ ⟨.str _, H, I.tok _, ⟨_, rfl⟩, q⟩
    simpa [okX] using hs.ok
  | str x =>
    obtain ⟨t, rfl⟩ := ru
    exact PySem.P.repr_of_str ⟨.str _, H, I.tok _, ⟨_, rfl⟩, q⟩ hz
  | lst _ _ => exact big _ rfl
  | tup _ _ => exact big _ rfl
  | dct _ => exact big _ rfl
end TP
namespace TP
open PySem PySem.Spec PyProof.Rows L2 LamX
theorem run_pair {d : PyData} (h : runD d = true) : ∃ p : Str × Int, d = pairD p ∧ isName p.1 = true ∧ 1 ≤ p.2 := by
  unfold runD at h
  split at h
  · rename_i a b
    rw [Bool.and_eq_true] at h
    obtain ⟨h1, h2⟩ := h
    cases a with
    | str x =>
      cases b with
      | int i => exact ⟨(x, i), rfl, h1, of_decide_eq_true h2⟩
      | _ => cases h2
    | _ => cases h1
  · cases h
theorem runs_of : ∀ {ds : List PyData}, (∀ d ∈ ds, runD d = true) → ∃ ps : Bag, ds = ps.map pairD ∧ ∀ p ∈ ps, isName p.1 = true ∧ 1 ≤ p.2
  | [], _ => ⟨[], rfl, nofun⟩
  | d :: ds, h => by
    obtain ⟨p, rfl, h1, h2⟩ := run_pair (h d List.mem_cons_self)
    obtain ⟨ps, rfl, h3⟩ := runs_of fun d hd => h d (List.mem_cons_of_mem _ hd)
    refine ⟨p :: ps, rfl, fun q hq => ?_⟩
    rcases List.mem_cons.mp hq with rfl | hq
    · exact ⟨h1, h2⟩
    · exact h3 q hq
theorem dx_bag {K : PySem.W.Frag} {H : Hp} {v : V} {ps : Bag} (h : Dx K H v (bagD ps)) : Dp K H v (bagD ps) := by
  obtain ⟨a, xs, rfl, hs, hx⟩ := dx_tup_inv h
  refine .tup hs ?_
  clear hs h
  induction ps generalizing xs with
  | nil => cases hx; exact .nil
  | cons p ps ih =>
    cases hx with
    | cons r hx =>
      obtain ⟨b, ys, rfl, hb, hy⟩ := dx_tup_inv r
      refine .cons (.tup hb ?_) (ih _ hx)
      cases hy with
      | cons r0 hy =>
      cases hy with
      | cons r1 hy =>
      cases hy
      cases dx_str_inv r0
      cases dx_int_inv r1
      exact .cons (.str _) (.cons (.int _) .nil)
theorem szDs_all : ∀ {ds : List PyData}, (∀ d ∈ ds, szD d = true) → szDs ds = true
  | [], _ => rfl
  | d :: ds, h => by
    show (szD d && szDs ds) = true
    rw [h d List.mem_cons_self, szDs_all fun e he => h e (List.mem_cons_of_mem _ he)]; rfl
end TP
namespace TP
open PySem PySem.Spec PyProof.Rows L2 LamX
def GivesD (K : PySem.W.Frag) (σ : L2.St) (H : Hp) (te : TE) (d : PyData) : Prop := ∀ H0, Same H H0 → ∀ Q : VK, (∀ v H', Same H0 H' → Dx K H' v d → Q v H') → te σ H0 Q
def GivesA (K : PySem.W.Frag) (σ : L2.St) (H : Hp) (tr : TA) (ds : List PyData) : Prop := ∀ H0, Same H H0 → ∀ Q : List V → Hp → Prop, (∀ vs H', Same H0 H' → DxAll K H' vs ds → Q vs H') → tr σ H0 Q
def GivesL (K : PySem.W.Frag) (σ : L2.St) (H : Hp) (te : TE) (ds : List PyData) : Prop := ∀ H0, Same H H0 → ∀ Q : VK, (∀ l xs H', Same H0 H' → H' l = some (.lst xs) → DxAll K H' xs ds → Q (.ref l) H') → te σ H0 Q
section
variable {K : PySem.W.Frag} {σ : L2.St} {H : Hp} {te : TE} {tr : TA} {d : PyData} {ds es : List PyData}
theorem gd_int {i : Int} : GivesD K σ H (tC (.int i)) (.int i) := fun H0 _ Q h => h _ _ (Same.refl _) (.int i)
theorem gd_neg {i : Int} : GivesD K σ H (tUn (rU fun i => .int (-i)) (tC (.int i))) (.int (-i)) := fun H0 _ Q h => ⟨i, rfl, h _ _ (Same.refl _) (.int _)⟩
theorem gd_str {x : Str} : GivesD K σ H (tC (.str x)) (.str x) := fun H0 _ Q h => h _ _ (Same.refl _) (.str x)
theorem gd_bl {b : Bool} : GivesD K σ H (tC (.bl b)) (.bool b) := fun H0 _ Q h => h _ _ (Same.refl _) (.bl b)
theorem gd_non : GivesD K σ H (tC .non) .none := fun H0 _ Q h => h _ _ (Same.refl _) .non
theorem gd_var {i : Nat} {v : V} (e : σ[i]? = some (some v)) (hd : Dx K H v d) : GivesD K σ H (tVar i) d := fun H0 s Q h => ⟨v, e, h v H0 (Same.refl _) (dx_same s hd)⟩
theorem gd_dct : GivesD K σ H tDNewK (.dict []) := fun H0 _ Q h p hp => h _ _ (same_new hp) (.dct upd_same)
theorem gd_pow {i j : Int} (h : CPow i j) : GivesD K σ H (tOp (rI CPow fun i j => .int (i ^ j.toNat)) (tC (.int i)) (tC (.int j))) (.int (i ^ j.toNat)) := fun H0 _ Q k => ⟨i, j, rfl, rfl, h, k _ _ (Same.refl _) (.int _)⟩
theorem ga_nil : GivesA K σ H tNil [] := fun H0 _ Q h => h _ _ (Same.refl _) .nil
theorem ga_cons (h1 : GivesD K σ H te d) (h2 : GivesA K σ H tr ds) : GivesA K σ H (tCons te tr) (d :: ds) := fun H0 s Q h =>
  h1 H0 s _ fun v H1 s1 hv => h2 H1 (s.trans s1) _ fun vs H2 s2 hvs => h _ _ (s1.trans s2) (.cons (dx_same s2 hv) hvs)
theorem gd_tup (h : GivesA K σ H tr ds) (hl : ds.length.ble 100000 = true) : GivesD K σ H (tTup tr) (.tuple ds) := fun H0 s Q k =>
  h H0 s _ fun vs H1 s1 hvs => ⟨by rw [dxs_len hvs]; exact sz_le (Nat.le_of_ble_eq_true hl), fun p hp => k _ _ (s1.trans (same_new hp)) (.tup (SqT.of upd_same) (dxs_same (same_new hp) hvs))⟩
theorem gl_lst (h : GivesA K σ H tr ds) (hl : ds.length.ble 100000 = true) : GivesL K σ H (tLst tr) ds := fun H0 s Q k =>
  h H0 s _ fun vs H1 s1 hvs => ⟨by rw [dxs_len hvs]; exact sz_le (Nat.le_of_ble_eq_true hl), fun p hp => k _ _ _ (s1.trans (same_new hp)) upd_same (dxs_same (same_new hp) hvs)⟩
theorem gl_d (h : GivesL K σ H te ds) : GivesD K σ H te (.list ds) := fun H0 s Q k => h H0 s Q fun l xs H' s' hl hx => k _ _ s' (.lst (SqL.of hl) hx)
theorem gl_var {i : Nat} {l : Addr} {xs : List V} (e : σ[i]? = some (some (.ref l))) (hl : H l = some (.lst xs)) (hd : DxAll K H xs ds) : GivesL K σ H (tVar i) ds := fun H0 s Q h => ⟨.ref l, e, h l xs H0 (Same.refl _) (s _ _ hl) (dxs_same s hd)⟩
theorem gl_cat {ta tb : TE} (h1 : GivesL K σ H ta ds) (h2 : GivesL K σ H tb es) (hl : (ds.length + es.length).ble 100000 = true) : GivesL K σ H (tOp rCat ta tb) (ds ++ es) := fun H0 s Q k =>
  h1 H0 s _ fun l xs H1 s1 hl1 hx1 => h2 H1 (s.trans s1) _ fun b ys H2 s2 hb hy => ⟨l, b, xs, ys, rfl, rfl, s2 _ _ hl1, hb, by
    rw [dxs_len hx1, dxs_len hy]; exact sz_le (Nat.le_of_ble_eq_true hl), fun p hp => k p _ _ ((s1.trans s2).trans (same_new hp)) upd_same (dxs_same (same_new hp) (dxs_app (dxs_same s2 hx1) hy))⟩
theorem gl_asg {g : TG} {u : TS} {De : Ends} (h : GivesL K σ H te ds) (k : ∀ l xs H', Same H H' → H' l = some (.lst xs) → DxAll K H' xs ds → g (.ref l) σ H' (u De)) : tSeq (tAsg te g) u De σ H := h H (Same.refl _) _ k
end
theorem cutL_len {α : Type} (ds : List α) (lo hi : Option Int) : (cutL ds lo hi).length ≤ ds.length := by
  unfold cutL
  rw [List.length_take, List.length_drop]
  omega
end TP
namespace TP
open PySem PySem.Spec PyProof.Rows L2 LamX
theorem dxs_get' {K : PySem.W.Frag} {H : Hp} : ∀ {vs : List V} {ds : List PyData} {i : Nat} {d : PyData}, DxAll K H vs ds → ds[i]? = some d → ∃ v, vs[i]? = some v ∧ Dx K H v d
  | _, _, i, _, .nil, e => by simp at e
  | _, _, 0, _, .cons h _, e => by simp at e; subst e; exact ⟨_, rfl, h⟩
  | _, _, i + 1, d, .cons _ r, e => by
    obtain ⟨v, h1, h2⟩ := dxs_get' (i := i) r (by simpa using e)
    exact ⟨v, by simpa using h1, h2⟩
abbrev Ver := List PyData → Option Nat
def verV (F : Ver) : PyData → V
  | .tuple ds => optV (F ds)
  | _ => .non
def verOk (F : Ver) : PyData → Bool
  | .tuple ds => (F ds).isNone
  | _ => false
abbrev badF (m : Int) : Ver := fun ds => firstBad ds m
theorem bad_inv {ds : List PyData} {m : Int} (h : firstBad ds m = none) : ∃ ps : Bag, ds = ps.map pairD ∧ BagOk ps ∧ ((ps.length : Int) ≤ m ∨ ps = []) := by
  unfold firstBad at h
  rw [List.find?_eq_none] at h
  have hi : ∀ i (hl : i < ds.length), ((i : Nat) : Int) < m ∧ runD ds[i] = true ∧ (0 < i → ltS (nmD (ds.getD (i - 1) .none)) (nmD ds[i])) := fun i hl => by
    have h0 := h i (List.mem_range.mpr hl)
    have h0 : badAt ds m i = false := by simpa using h0
    unfold badAt at h0
    have e : ds.getD i .none = ds[i] := by simp [List.getD, hl]
    rw [e, Bool.or_eq_false_iff, Bool.or_eq_false_iff] at h0
    obtain ⟨a, b, c⟩ := h0
    refine ⟨by have := of_decide_eq_false a; omega, by simpa using b, fun hp => ?_⟩
    rw [decide_eq_true hp, Bool.true_and] at c
    by_cases z : ltS (nmD (ds.getD (i - 1) .none)) (nmD ds[i])
    · exact z
    · rw [decide_eq_false z] at c; cases c
  obtain ⟨ps, rfl, hps⟩ := runs_of fun d hd => by
    obtain ⟨i, hl, rfl⟩ := List.mem_iff_getElem.mp hd
    exact (hi i hl).2.1
  refine ⟨ps, rfl, ⟨?_, fun p hp => (hps p hp).1, fun p hp => (hps p hp).2⟩, ?_⟩
  · have step : ∀ i (h1 : i + 1 < ps.length), ltS ps[i].1 ps[i + 1].1 := fun i h1 => by
      have h2 := (hi (i + 1) (by rw [List.length_map]; exact h1)).2.2 (by omega)
      have e1 : (ps.map pairD).getD (i + 1 - 1) .none = pairD ps[i] := by
        rw [Nat.add_sub_cancel]
        simp [List.getD, (show i < ps.length by omega)]
      rw [e1, List.getElem_map] at h2
      exact h2
    have all : ∀ (n i : Nat) (h1 : i + n + 1 < ps.length), ltS ps[i].1 ps[i + n + 1].1 := fun n => by
      induction n with
      | zero => exact fun i h1 => step i h1
      | succ n ih => exact fun i h1 => ltS_trans (ih i (by omega)) (step (i + n + 1) (by omega))
    rw [List.pairwise_iff_getElem]
    intro i j hi' hj hij
    have := all (j - i - 1) i (by omega)
    have e : i + (j - i - 1) + 1 = j := by omega
    simp only [e] at this
    exact this
  · by_cases z : ps.length = 0
    · exact .inr (List.length_eq_zero_iff.mp z)
    · have := (hi (ps.length - 1) (by rw [List.length_map]; omega)).1
      exact .inl (by omega)
def spInitX (K : PySem.W.Frag) : Sp := fun vs H Q E => ∃ (x dx : Addr) (v1 v2 : V) (d1 d2 : PyData), vs = [.ref x, v1, v2] ∧ H x = some (.ins (He.ga K "Summary") dx []) ∧ Dx K H v1 d1 ∧ Dx K H v2 d2 ∧ szD d2 = true ∧ (betD d1 1 8 = false → ∀ dd H', Same H H' → H' dd = some (.xd [("capacity", v1)]) → E (.ref (He.ga K "InvalidCapacity")) (some dd) H') ∧ (∀ c, d1 = .int c → 1 ≤ c → c ≤ 8 → (verOk (badF c) d2 = true → ∀ H', SameB x H H' → H' x = some (.ins (He.ga K "Summary") dx [("capacity", .int c), ("counts", v2)]) → Q .non H') ∧ (verOk (badF c) d2 = false → ∀ dd H', Same H H' → H' dd = some (.xd [("index", verV (badF c) d2)]) → E (.ref (He.ga K "InvalidSummary")) (some dd) H'))
theorem w_mkSumX {K : PySem.W.Frag} {H : Hp} {Q : VK} {sp : Sp} {js : List Nat} {dvs vs zs : List V} {v1 v2 : V} {d1 d2 : PyData} {E : XK} (hp : ∀ x, pick js ((V.ref x :: vs) ++ zs ++ dvs) = [.ref x, v1, v2]) (h1 : Dx K H v1 d1) (h2 : Dx K H v2 d2) (hz : szD d2 = true)
    (kC : betD d1 1 8 = false → ∀ dd H', Same H H' → H' dd = some (.xd [("capacity", v1)]) → E (.ref (He.ga K "InvalidCapacity")) (some dd) H')
    (k : ∀ c, d1 = .int c → 1 ≤ c → c ≤ 8 → (verOk (badF c) d2 = true → ∀ a dx H', Same H H' → H' a = some (.ins (He.ga K "Summary") dx [("capacity", .int c), ("counts", v2)]) → Q (.ref a) H') ∧ (verOk (badF c) d2 = false → ∀ dd H', Same H H' → H' dd = some (.xd [("index", verV (badF c) d2)]) → E (.ref (He.ga K "InvalidSummary")) (some dd) H'))
    (hsp : sp = spInitX K := by rfl) : MkG (He.ga K "Summary") sp js dvs vs zs H Q E := by
  subst hsp
  intro x dx hx hdx ne
  rw [hp x]
  have s1 : Same H (upd (upd H dx (.own x)) x (.ins (He.ga K "Summary") dx [])) := same_step (same_new hdx) (by rw [upd_ne ne.symm]; exact hx)
  refine ⟨x, dx, v1, v2, d1, d2, rfl, upd_same, dx_same s1 h1, dx_same s1 h2, hz, fun hb dd H' s hdd => kC hb dd H' (s1.trans s) hdd, fun c e c1 c8 => ?_⟩
  obtain ⟨k1, k2⟩ := k c e c1 c8
  exact ⟨fun ho H' sb e => ⟨rfl, k1 ho x dx H' (fun z o ez => sb z o (ne_of_none ez hx) (s1 z o ez)) e⟩, fun ho dd H' s hdd => k2 ho dd H' (s1.trans s) hdd⟩
theorem w_caughtR {K : PySem.W.Frag} {T : List (Addr × Str)} {t : XK → TE} {σ : L2.St} {H : Hp} {Q : VK} (wd : Str) (R : V → Hp → Prop) (hT : Tabs T H) (main : ∀ l y H', ExtN H H' → Tabs T H' → H' l = some (.lst [.str wd, y]) → R y H' → Q (.ref l) H')
    (h : ∀ H1, ExtN H H1 → Tabs T H1 → ∀ Q' : VK, (∀ l y H', ExtN H H' → Tabs T H' → H' l = some (.lst [.str wd, y]) → R y H' → Q' (.ref l) H') → t (fun cls d H' => CaughtC K cls d H' Q') σ H1 (fun v H2 => LstC [.str "returned", v] H2 Q')) : tLam T (TCaught K) t σ H Q := ⟨hT, fun H1 x T1 => h H1 x T1 Q main⟩
section
variable {X : Cx} {CX : CXT} {k n : Nat} {C m q : Str} {st : Stmt} {dvs : List V} {ps ks : List Str} {js : List Nat} {sp : Sp} {E : XK} {p pos apos : Pos} {e o : Expr} {es : List Expr} {kws : List Keyword} {ta : TE} {t tk : TA} {fs : List Str}
theorem kx_mk (K : PySem.W.Frag) (c : ClsF X.K X.mg C fs) (F : HasM X.prog X.w X.K X.mg X.base CX k C "__init__" q st dvs ps sp) (hb : BindJ "__init__" q st ps dvs.length (n + 1) [] js) (hr : Room (k + 1) X.A) (hg : X.A.guards = some []) (hgl : Gl X C) (hx : Passes CX X E)
    (ha : PA X (e :: es) t) (hdb : (C == ("__debug__" : Str)) = false := by decide) (he : starEach (e :: es) X.env = (false, eval e X.env) :: starEach es X.env := by rfl) (hpl : (backTo pos (starEach es X.env)).any (·.1) = false := by rfl) (hK : X.K = K := by rfl) :
    PE X (.Call (.Name C p) (e :: es) [] pos) (tMkN (He.ga K C) sp n 0 js dvs E t tNil) := by
  subst hK
  exact pe_mk c F hb hr hg hgl hx ha hdb he hpl
end
end TP
namespace TP
open PySem PySem.Spec PyProof.Rows L2 LamX
def BesD (D : Addr) (H G : Hp) : Prop := ∀ b o, b ≠ D → H b = some o → G b = some o
theorem rd_off {D a : Addr} {u : HO} {H G : Hp} (s : BesD D H G) (hD : a ≠ D) (h : Rd H a u) : Rd G a u := by
  rcases h with h | ⟨o, h⟩
  · exact .inl (s _ _ hD h)
  · exact .inr ⟨o, s _ _ hD h⟩
mutual
theorem dx_off {K : PySem.W.Frag} {D : Addr} {φ : Heap → Prop} {H G : Hp} (s : BesD D H G) (hD : H D = some (.ext φ)) : ∀ {v : V} {d : PyData}, Dx K H v d → Dx K G v d
  | _, _, .non => .non
  | _, _, .bl b => .bl b
  | _, _, .int i => .int i
  | _, _, .str x => .str x
  | _, _, .lst h r => .lst (h.imp (fun q => rd_off s (fun e => by subst e; rcases q with q | ⟨o, q⟩ <;> rw [hD] at q <;> cases q) q) id) (dxs_off s hD r)
  | _, _, .tup h r => .tup (h.imp (fun q => rd_off s (fun e => by subst e; rcases q with q | ⟨o, q⟩ <;> rw [hD] at q <;> cases q) q) id) (dxs_off s hD r)
  | _, _, .dct h => .dct (s _ _ (fun e => by rw [e, hD] at h; cases h) h)
theorem dxs_off {K : PySem.W.Frag} {D : Addr} {φ : Heap → Prop} {H G : Hp} (s : BesD D H G) (hD : H D = some (.ext φ)) : ∀ {vs : List V} {ds : List PyData}, DxAll K H vs ds → DxAll K G vs ds
  | _, _, .nil => .nil
  | _, _, .cons h r => .cons (dx_off s hD h) (dxs_off s hD r)
end
end TP
namespace TP
open PySem PySem.Spec PyProof.Rows L2 LamX
theorem okXs_all : ∀ {ds : List PyData}, (∀ d ∈ ds, okX d = true) → okXs ds = true
  | [], _ => rfl
  | d :: ds, h => by
    show (okX d && okXs ds) = true
    rw [h d List.mem_cons_self, okXs_all fun e he => h e (List.mem_cons_of_mem _ he)]; rfl
theorem rbXs_le {m : Nat} : ∀ {ds : List PyData}, (∀ d ∈ ds, rbX d ≤ m) → rbXs ds ≤ ds.length * (m + 2)
  | [], _ => by simp [rbXs]
  | d :: ds, h => by
    have h1 := h d List.mem_cons_self
    have h2 := rbXs_le fun e he => h e (List.mem_cons_of_mem _ he)
    show rbX d + 2 + rbXs ds ≤ (ds.length + 1) * (m + 2)
    rw [Nat.succ_mul]; omega
end TP
namespace TP
open PySem PySem.Spec PyProof.Rows L2 LamX
theorem BagOk.takeX {ps : Bag} (h : BagOk ps) (k : Nat) : BagOk (ps.take k) := ⟨h.asc.sublist (List.take_sublist _ _), fun p hp => h.nam p (List.mem_of_mem_take hp), fun p hp => h.pos p (List.mem_of_mem_take hp)⟩
end TP
namespace TP
open PySem PySem.Spec PyProof.Rows L2 LamX
structure FnA (P : Program) (w : World) (K : PySem.W.Frag) (mg : Str → Option Value) (base : Heap) (CX : CXT) (k : Nat) (f : Addr) (fd : FuncData) (ps : List Str) (sp : Sp) : Prop where
  len : ∀ vs H Q E, sp vs H Q E → vs.length = ps.length
  run : ∀ (A : Around) (outer : List Env) (s : Shared) (H : Hp) (args : Args) (us : List Value) (vs : List V) (Q : VK) (E : XK), Room k A →
    Env0 P w K mg base A outer s H → BindsTo s fd args (ps.zip us) → Vals vs us → sp vs H Q E → codeAny (model P w) A (.call (.ref f) args) (CR CX outer P w H s Q E) s
theorem fnA_of {CX : CXT} {P : Program} {w : World} {K : PySem.W.Frag} {mg : Str → Option Value} {base : Heap} {k : Nat} {f : Addr} {x qual : Str} {params : Arguments} {body : List Stmt} {scope : Scope} {dvs : List V} {kws : List (Str × V)} {fd : FuncData} {N ps : List Str} {sp : Sp}
    (F : FunD K x qual params body scope dvs kws f fd) (S : FnScope N ps scope) (len : ∀ vs H Q E, sp vs H Q E → vs.length = ps.length)
    (hbody : ∀ (cdv : Value) (A : Around) (outer : List Env) (s : Shared) (H : Hp) (vs : List V) (Q : VK) (E : XK), Room k (A.deeper (envOfC qual scope s.heap.objs.size f cdv)) → sp vs H Q E →
      ∃ t, PSs (cxOf CX P w K mg base N qual scope f cdv A outer s H E) body t ∧ t { nx := fun _ H' => Q .non H', rt := Q } (L2.start N vs) H) :
    FnA P w K mg base CX (k + 1) f fd ps sp := by
  obtain ⟨oc, od, dV, kV, doc, pm, an, cdv, ct, osl, rfl, lk, hcd, _, _⟩ := F.ex
  refine ⟨len, fun A outer s H args us vs Q E hr e0 hb r hsp => ?_⟩
  have hl := len _ _ _ _ hsp
  have kx : K.In s.heap := e0.mod.kin.keeps fun b o e => (e0.bs b o e).1
  have nl : s.heap.NoLimit := e0.mod.nolimit.keeps fun b o e => (e0.bs b o e).1
  refine codeAny_call_function hr.depth (kx _ _ lk) rfl S.co S.gen rfl (PySem.W.codeRec_of kx hcd) (hb _ _ _ _ ?_)
  refine wpAny_newFunctionEnv_cells S.kind (fun ⟨n, v⟩ hy => by
    rcases S.par n (List.of_mem_zip hy).1 with q | q
    · exact .inl q
    · exact .inr ⟨q, PySem.W.cellsFrom_some _ _ _ (.inl q)⟩) fun env he s1 ic => ?_
  subst he
  refine ⟨nl.keeps ic.toInCall.keep, codeAny_func ?_⟩
  obtain ⟨t, ht, hq⟩ := hbody cdv A outer s H vs Q E (hr.deeper _) hsp
  have I0 := inv_start (CX := CX) (E := E) S hr.hd e0 hl r ic
  refine wpAny_mono (ht.run [] s1 (L2.start N vs) H _ I0 hq) (fun fl s' hs => ?_) fun e s' hs => hs
  cases fl with
  | ret u =>
    obtain ⟨v, σ', H', J, rv, q⟩ := hs
    exact ⟨v, H', J.os, J.bare, J.base, J.hok, rv, q⟩
  | next =>
    obtain ⟨σ', H', J, q⟩ := hs
    exact ⟨.non, H', J.os, J.bare, J.base, J.hok, rfl, q⟩
  | brk =>
    obtain ⟨_, _, _, q⟩ := hs
    exact q.elim
  | cont =>
    obtain ⟨_, _, _, q⟩ := hs
    exact q.elim
structure HasA (P : Program) (w : World) (K : PySem.W.Frag) (mg : Str → Option Value) (base : Heap) (CX : CXT) (k : Nat) (x : Str) (st : Stmt) (ps : List Str) (sp : Sp) : Prop where
  ex : ∃ fd, FunD K x x (defArgs st) (defBody st) (defScope st) [] [] (He.ga K x) fd ∧ FnA P w K mg base CX k (He.ga K x) fd ps sp
  glo : mg x = some (.ref (He.ga K x))
structure HasMA (P : Program) (w : World) (K : PySem.W.Frag) (mg : Str → Option Value) (base : Heap) (CX : CXT) (k : Nat) (C m q : Str) (st : Stmt) (dvs : List V) (ps : List Str) (sp : Sp) : Prop where
  ex : ∃ fd, FunD K m q (defArgs st) (defBody st) (defScope st) dvs [] (He.ma K (He.ga K C) m) fd ∧ FnA P w K mg base CX k (He.ma K (He.ga K C) m) fd ps sp
  mt : Meth K (He.ga K C) m (He.ma K (He.ga K C) m)
section
variable {P : Program} {w : World} {K : PySem.W.Frag} {mg : Str → Option Value} {base : Heap} {CX : CXT} {k : Nat} {x C m q : Str} {st : Stmt} {dvs : List V} {N ps : List Str} {sp : Sp}
theorem Dfd.hasA (D : Dfd K mg x st) (S : FnScope N ps (defScope st)) (len : ∀ vs H Q E, sp vs H Q E → vs.length = ps.length)
    (hbody : ∀ (cdv : Value) (A : Around) (outer : List Env) (s : Shared) (H : Hp) (vs : List V) (Q : VK) (E : XK), Room k (A.deeper (envOfC x (defScope st) s.heap.objs.size (He.ga K x) cdv)) → sp vs H Q E →
      ∃ t, PSs (cxOf CX P w K mg base N x (defScope st) (He.ga K x) cdv A outer s H E) (defBody st) t ∧ t { nx := fun _ H' => Q .non H', rt := Q } (L2.start N vs) H) :
    HasA P w K mg base CX (k + 1) x st ps sp := by
  obtain ⟨fd, F⟩ := D.ex
  exact ⟨⟨fd, F, fnA_of F S len hbody⟩, D.glo⟩
theorem DfdM.hasA (D : DfdM K C m q st dvs) (S : FnScope N ps (defScope st)) (len : ∀ vs H Q E, sp vs H Q E → vs.length = ps.length)
    (hbody : ∀ (cdv : Value) (A : Around) (outer : List Env) (s : Shared) (H : Hp) (vs : List V) (Q : VK) (E : XK), Room k (A.deeper (envOfC q (defScope st) s.heap.objs.size (He.ma K (He.ga K C) m) cdv)) → sp vs H Q E →
      ∃ t, PSs (cxOf CX P w K mg base N q (defScope st) (He.ma K (He.ga K C) m) cdv A outer s H E) (defBody st) t ∧ t { nx := fun _ H' => Q .non H', rt := Q } (L2.start N vs) H) :
    HasMA P w K mg base CX (k + 1) C m q st dvs ps sp := by
  obtain ⟨fd, F⟩ := D.ex
  exact ⟨⟨fd, F, fnA_of F S len hbody⟩, D.mt⟩
end
section
variable {P : Program} {w : World} {K : PySem.W.Frag} {mg : Str → Option Value} {base : Heap} {CX : CXT} {k : Nat} {x C m q : Str} {st : Stmt} {dvs : List V} {ps : List Str} {sp : Sp}
theorem HasA.has (h : HasA P w K mg base CX k x st ps sp) : Has P w K mg base CX k x st ps sp := by
  obtain ⟨⟨fd, F, G⟩, g⟩ := h
  exact ⟨⟨fd, F, G.len, fun A outer s H args us vs Q E hr _ => G.run A outer s H args us vs Q E hr⟩, g⟩
end
section
variable {X : Cx} {CX : CXT} {k : Nat} {f : Addr} {fd : FuncData} {ps : List Str} {sp : Sp} {E : XK} {x : Str} {st : Stmt} {p pos : Pos} {e : Expr} {es : List Expr} {t : TA}
theorem runA {pins : List (Addr × Obj)} {σ : L2.St} {H : Hp} {s : Shared} {Q : VK} {us : List Value} {args : Args} {vs : List V} (F : FnA X.prog X.w X.K X.mg X.base CX k f fd ps sp) (hr : Room k X.A) (hx : Passes CX X E)
    (I : Inv X pins σ H s) (r : Vals vs us) (hb : BindsTo s fd args (ps.zip us)) (h : sp vs H Q E) : wpAny (model X.prog X.w) X.A (call (.ref f) args.pos args.kw) (EP X pins σ Q) X.xe s := by
  refine wpAny_call (codeAny_mono (F.run X.A X.stack s H args us vs Q E hr I.env0 hb r h) fun z s' hq => ?_)
  cases z with
  | error e => exact hx pins σ H s e s' I hq
  | ok fl =>
    cases fl with
    | ret u => exact I.after hq
    | next => exact hq.elim
    | brk => exact hq.elim
    | cont => exact hq.elim
theorem pe_fnA (F : HasA X.prog X.w X.K X.mg X.base CX k x st ps sp) (hb : PosB x st ps) (hr : Room k X.A) (hgl : Gl X x) (hx : Passes CX X E)
    (ha : PA X (e :: es) t) (hdb : (x == ("__debug__" : Str)) = false := by decide) (he : starEach (e :: es) X.env = (false, eval e X.env) :: starEach es X.env := by rfl)
    (hpl : (backTo pos (starEach es X.env)).any (·.1) = false := by rfl) : PE X (.Call (.Name x p) (e :: es) [] pos) (tCall sp [] E t) := by
  obtain ⟨fd, FD, G⟩ := F.ex
  refine ⟨fun pins s σ H Q I h => ?_⟩
  refine wpAny_Call_Name_kw (ld_glob I hgl F.glo ?_ hdb)
  refine PySem.W.callWith_K (h₀ := X.base) I.ok.mod.kin FD.kp (thn (ha.run pos pins s σ H _ I h) fun us s1 ⟨vs, H1, I1, r, q⟩ => ⟨I1.kIn, ?_⟩) he hpl
  have q2 : sp vs H1 Q E := by rw [← List.append_nil vs]; exact q
  obtain ⟨kV, doc, pm, an, cdv, ct, rfl⟩ := FunD.noDef FD
  exact runA (args := ⟨us, []⟩) G hr hx I1 r (.of_eq (hb kV doc pm an cdv ct us (by rw [← r.length]; exact G.len _ _ _ _ q2))) q2
theorem under_own {K : PySem.W.Frag} {A : Around} {s : Shared} {Er : Value → Shared → Prop} {Q : Value → Shared → Prop} {base : Nat} {a C g : Addr} {ox : Obj} {od : Option Obj} (hu : A.units < cLine) (kx : K.In s.heap) (I : PySem.W.InstAt s.heap a ox C od)
    (hs : PySem.W.findIn K (.ref C) "__repr__" = some (some (.ref g))) (hf : PySem.W.isFn K (.ref g) = true) (h : wpAny (model X.prog X.w) A (call (.ref g) [.ref a]) (PySem.W.StrBack Q) Er s) :
    wpAny (model X.prog X.w) A (pyReprObjUnder base (.ref a)) (fun v s' => ∃ x u, v = .str x u ∧ Q v s') Er s := by
  unfold pyReprObjUnder pyReprObjBy
  refine wpAny_bind (wpAny_cRoomFor hu ?_)
  refine wpAny_bind (wpAny_bind (I.type.here ((PySem.W.looks_findIn kx hs).here ?_)))
  show wpAny _ _ (if (some (Value.ref g)).isNone = true then _ else _) _ _ _
  rw [if_neg (by simp)]
  have fin : wpAny (model X.prog X.w) A (call (.ref g) ([.ref a] ++ []) >>= fun v => pure (some v)) (fun o s' => ∃ x u, o = some (.str x u) ∧ Q (.str x u) s') Er s :=
    wpAny_bind (wpAny_mono h (fun v s' h' => wpAny_pure (by cases v <;> first | exact h'.elim | exact ⟨_, _, rfl, h'⟩)) fun _ _ h' => h')
  refine wpAny_bind (wpAny_mono (Q := fun o s' => ∃ x u, o = some (.str x u) ∧ Q (.str x u) s') (E := Er) ?_ (fun o s' ho => ?_) fun _ _ h' => h')
  · simp only [callSpecialIfBoundBy?, bindSpecialIfBound?]
    refine wpAny_holding (wpAny_bind (wpAny_bind (wpAny_bind (I.type.here ((PySem.W.looks_findIn kx hs).here ?_)))))
    refine wpAny_bind (wpAny_askSetting (wpAny_ite ?_))
    have bf := PySem.W.bind_fn (M := model X.prog X.w) kx (.ref a) (beq_iff_eq.mp hf)
    split
    · exact wpAny_bind (bf.here (wpAny_pure (by exact fin)))
    · exact wpAny_tryCatch (wpAny_bind (bf.here (wpAny_pure (by exact fin))))
  · obtain ⟨x, u, rfl, hq⟩ := ho
    exact wpAny_bind (wpAny_isInstance (typeIs_str _ _ _) isSubtype_str_str (wpAny_pure ⟨_, _, rfl, hq⟩))
end
mutual
inductive Sv (RS : Hp → V → Str → Prop) (H : Hp) : V → Str → Nat → Prop
  | non : Sv RS H .non "None" 0
  | bl (b : Bool) : Sv RS H (.bl b) (if b = true then "True" else "False") 0
  | int (i : Int) : i.natAbs.log2 < 1920 → Sv RS H (.int i) (toString i) 0
  | str (x : Str) : (reprText x).length ≤ sizeLine → Sv RS H (.str x) (reprText x) 0
  | own {v : V} {t : Str} : RS H v t → Sv RS H v t 0
  | dct {a : Addr} : H a = some (.dK []) → Sv RS H (.ref a) (dictText []) 0
  | lst {a : Addr} {xs : List V} {ts : List Str} {d : Nat} : H a = some (.lst xs) → SvAll RS H xs ts d → Sv RS H (.ref a) (listText ts) (d + 1)
inductive SvAll (RS : Hp → V → Str → Prop) (H : Hp) : List V → List Str → Nat → Prop
  | nil : SvAll RS H [] [] 0
  | cons {v : V} {t : Str} {xs : List V} {ts : List Str} {d e : Nat} : Sv RS H v t d → SvAll RS H xs ts e → SvAll RS H (v :: xs) (t :: ts) (max d e)
end
section
variable {RS : Hp → V → Str → Prop} {H H' : Hp}
mutual
theorem sv_same (s : Same H H') (hR : ∀ v t, RS H v t → RS H' v t) : ∀ {v : V} {t : Str} {d : Nat}, Sv RS H v t d → Sv RS H' v t d
  | _, _, _, .non => .non
  | _, _, _, .bl b => .bl b
  | _, _, _, .int i h => .int i h
  | _, _, _, .str x h => .str x h
  | _, _, _, .own h => .own (hR _ _ h)
  | _, _, _, .dct h => .dct (s _ _ h)
  | _, _, _, .lst h r => .lst (s _ _ h) (svs_same s hR r)
theorem svs_same (s : Same H H') (hR : ∀ v t, RS H v t → RS H' v t) : ∀ {xs : List V} {ts : List Str} {d : Nat}, SvAll RS H xs ts d → SvAll RS H' xs ts d
  | _, _, _, .nil => .nil
  | _, _, _, .cons h r => .cons (sv_same s hR h) (svs_same s hR r)
end
theorem svs_len : ∀ {xs : List V} {ts : List Str} {d : Nat}, SvAll RS H xs ts d → ts.length = xs.length
  | _, _, _, .nil => rfl
  | _, _, _, .cons _ r => by simp [svs_len r]
variable (hx : ∀ a t xs, RS H (.ref a) t → H a ≠ some (.lst xs))
include hx
mutual
theorem sv_deep : ∀ {v : V} {t t' : Str} {d d' : Nat}, Sv RS H v t d → Sv RS H v t' d' → d = d'
  | _, _, _, _, _, .non, h => by cases h <;> rfl
  | _, _, _, _, _, .bl b, h => by cases h <;> rfl
  | _, _, _, _, _, .int i _, h => by cases h <;> rfl
  | _, _, _, _, _, .str x _, h => by cases h <;> rfl
  | _, _, _, _, _, .own h1, h => by
    cases h with
    | lst h2 _ => exact absurd h2 (hx _ _ _ h1)
    | _ => rfl
  | _, _, _, _, _, .dct h1, h => by
    cases h with
    | lst h2 _ => rw [h1] at h2; cases h2
    | _ => rfl
  | _, _, _, _, _, .lst h1 r1, h => by
    cases h with
    | own h2 => exact absurd h1 (hx _ _ _ h2)
    | dct h2 => rw [h1] at h2; cases h2
    | lst h2 r2 =>
      rw [h1] at h2
      cases h2
      exact congrArg (· + 1) (svs_deep r1 r2)
theorem svs_deep : ∀ {xs : List V} {ts ts' : List Str} {d d' : Nat}, SvAll RS H xs ts d → SvAll RS H xs ts' d' → d = d'
  | _, _, _, _, _, .nil, h => by cases h; rfl
  | _, _, _, _, _, .cons h1 r1, h => by
    cases h with
    | cons h2 r2 => rw [sv_deep h1 h2, svs_deep r1 r2]
end
end
end TP
namespace TP
open PySem PySem.Spec PyProof.Rows L2 LamX
open Builtin Builtin.List
def ClrS (RS : Hp → V → Str → Prop) (H0 : Hp) (g : List Code) (d : Nat) : Prop := ∀ a t e, e ≤ d → Sv RS H0 (.ref a) t e → Clear g a
def Els (X : Cx) (RS : Hp → V → Str → Prop) (H0 : Hp) (k : Nat) (v : V) (t : Str) (d : Nat) : Prop := ∀ (pins : List (Addr × Obj)) (σ : L2.St) (H : Hp) (s : Shared) (u : Value) (base : Nat) (A : Around) (g : List Code) (E : Value → Shared → Prop) (Q : Str → Shared → Prop),
  Same H0 H → Inv X pins σ H s → RelV v u → base + t.length ≤ sizeLine → A.guards = some g → ClrS RS H0 g d → A.frames = X.A.frames → Room (k + d) A → (∀ H' s', Same H H' → Inv X pins σ H' s' → Q t s') → wpAny (model X.prog X.w) A (pyReprUnder base u) Q E s
theorem ClrS.le {RS : Hp → V → Str → Prop} {H0 : Hp} {g : List Code} {d e : Nat} (h : ClrS RS H0 g d) (he : e ≤ d) : ClrS RS H0 g e := fun a t e' h1 h2 => h a t e' (Nat.le_trans h1 he) h2
def inLoop (A : Around) (args : Args) : Around := A.under (.builtin "list.__repr__.loop" args)
theorem inLoop_frames {A : Around} {args : Args} (h : A.frames ≠ none) : (inLoop A args).frames = A.frames := by
  cases e : A.frames with
  | none => exact absurd e h
  | some l =>
    have q : (Code.builtin "list.__repr__.loop" args).isFrame = false := rfl
    simp [inLoop, Around.under, Code.envs, pushEnvs, e, q, Code.frames]
theorem inLoop_room {A : Around} {args : Args} {k : Nat} (h : Room (k + 1) A) : Room k (inLoop A args) := by
  refine ⟨h.hd, ?_, ?_⟩
  · have h1 := h.dp
    show (A.under (.builtin "list.__repr__.loop" args)).depth + 3 * k + 5 < _
    have : (A.under (.builtin "list.__repr__.loop" args)).depth ≤ A.depth + 1 := by
      simp [Around.under, Code.weight, Code.isCreation, Code.isGuard, Code.isCaller, Code.frames, Code.isFrame, guardIds]
    omega
  · have h1 := h.un
    show (A.under (.builtin "list.__repr__.loop" args)).units + 16 * k + 200 < _
    rw [units_under_list_loop]
    omega
section
variable {X : Cx} {RS : Hp → V → Str → Prop} {H0 : Hp} {k : Nat}
theorem loopO {A : Around} {g : List Code} {a P : Addr} {xs : List V} {ts : List Str} {d base : Nat} {pins : List (Addr × Obj)} {σ : L2.St} {R : Result → Shared → Prop} {Hs : Hp} (h0 : H0 a = some (.lst xs)) (hs0 : Same H0 Hs) (hne : a ≠ P) (hg : A.guards = some g) (hcl : ∀ rest kw, ClrS RS H0 (.builtin "list.__repr__.loop" ⟨.ref a :: rest, kw⟩ :: g) d)
    (hf : A.frames = X.A.frames) (hr : Room (k + d + 1) A) (hlen : ts.length = xs.length) (hT : ∀ (i : Nat) (v : V), xs[i]? = some v → ∃ t e, ts[i]? = some t ∧ e ≤ d ∧ Els X RS H0 k v t e) (hsz : base + (listText ts).length ≤ sizeLine)
    (hR : ∀ H' s' u, Same Hs H' → Inv X pins σ H' s' → R (.ok (.ret (.str (listText ts) u))) s') :
    ∀ (m i : Nat) (H : Hp) (s : Shared) (acc : Array Value) (c : Nat) (done : List (Str × Tok)), xs.length - i = m → i ≤ xs.length → Same Hs H → Inv X pins σ H s → FpOk X pins H P →
      s.heap.get? P = some { cls := .type "list", dict := none, data := .seq acc c, slots := #[] } → acc.toList = strValues done → done.map (·.1) = ts.take i →
      codeAny (model X.prog X.w) A (.builtin "list.__repr__.loop" ⟨[.ref a, rawInt i, .ref P, rawInt ((base + piled (ts.take i) : Nat) : Int)], []⟩) R s := by
  have hX : (listText ts).length = (textFrom 0 "[" ts).length + 1 := by
    show (textFrom 0 "[" ts ++ "]").length = _
    rw [strLen_append]
    rfl
  have hL := textFrom_len ts 0 "["
  have z1 : ts.length ≤ sizeLine := by
    have q := hL.1
    rw [if_neg (Nat.lt_irrefl 0)] at q
    omega
  have z3 := piled_le_listText ts
  intro m
  induction m with
  | zero =>
    intro i H s acc c done hm hi hs I hP hPo hacc hdone
    obtain ⟨its, rv, ⟨o, n, ho, _, _, hd⟩, _⟩ := I.list (SqL.of (hs _ _ (hs0 _ _ h0)))
    have el := rv.length
    refine codeAny_builtin F.entry_list_repr_loop ?_
    show wpAny _ _ («list.__repr__.loop» ⟨[.ref a, .int i 0, .ref P, .int ((base + piled (ts.take i) : Nat) : Int) 0], []⟩) _ _ s
    rw [repr_loop_tree]
    refine wpAny_bind (wpAny_listItems ho hd ?_)
    have e0 : its.toArray[(i : Int).toNat]? = none := by
      rw [Int.toNat_natCast, List.getElem?_toArray]
      exact List.getElem?_eq_none (by omega)
    simp only [e0]
    unfold reprEnd
    refine wpAny_bind (wpAny_listItems hPo rfl ?_)
    rw [hacc, repr_fold]
    refine wpAny_bind (wpAny_pure ?_)
    rw [show done.map (·.1) = ts by rw [hdone]; exact List.take_of_length_le (by omega)]
    refine wpAny_bind (wpAny_mkStr (wpAny_pure ?_) (show (listText ts).length ≤ sizeLine by omega))
    exact hR H _ _ hs (I.tok _)
  | succ m ih =>
    intro i H s acc c done hm hi hs I hP hPo hacc hdone
    have hlt : i < xs.length := by omega
    obtain ⟨its, rv, ⟨o, n, ho, _, _, hd⟩, _⟩ := I.list (SqL.of (hs _ _ (hs0 _ _ h0)))
    have el := rv.length
    have hit : i < its.length := by omega
    obtain ⟨t, e, ht, he, hel⟩ := hT i xs[i] (List.getElem?_eq_getElem hlt)
    have p1 := piled_take_succ ht
    have p2 := piled_take_le ts (i + 1)
    have rx : RelV xs[i] its[i] := by
      obtain ⟨u, e1, e2⟩ := Vals.get rv (List.getElem?_eq_getElem hlt)
      rw [List.getElem?_eq_getElem hit] at e1
      rw [Option.some.inj e1]
      exact e2
    refine codeAny_builtin F.entry_list_repr_loop ?_
    show wpAny _ _ («list.__repr__.loop» ⟨[.ref a, .int i 0, .ref P, .int ((base + piled (ts.take i) : Nat) : Int) 0], []⟩) _ _ s
    rw [repr_loop_tree]
    refine wpAny_bind (wpAny_listItems ho hd ?_)
    have e0 : its.toArray[(i : Int).toNat]? = some its[i] := by
      rw [Int.toNat_natCast, List.getElem?_toArray]
      exact List.getElem?_eq_getElem hit
    simp only [e0]
    rw [Int.toNat_natCast]
    have Ip := I.pinned (fp := [P]) (fun b hb => by rw [List.mem_singleton.mp hb]; exact hP) fun b hb => by rw [List.mem_singleton.mp hb]; exact ⟨_, hPo, nofun⟩
    refine wpAny_bind (wpAny_holding (hel (pins ++ pinsAt [P] s.heap) σ H s its[i] (base + piled (ts.take i) + 1) (inLoop A _) _ _ _ (hs0.trans hs) Ip rx (by omega) (guards_under_guard (isGuard_list_loop _) hg) ?_ ((inLoop_frames ?_).trans hf) ?_ fun H' s' hs' I' => ?_))
    · exact (hcl _ _).le he
    · rw [hf, I.ok.frames]; nofun
    · exact inLoop_room (hr.mono (by omega))
    obtain ⟨q1, q2, _⟩ := I'.pin (P, _) (List.mem_append_right _ (List.mem_append_right _ (mem_pinsAt (List.mem_singleton.mpr rfl) hPo)))
    have I2 := I'.unpinned
    have hP' : FpOk X pins H' P := ⟨q2, hP.2⟩
    refine wpAny_bind (wpAny_mkStr ?_ (by omega))
    refine wpAny_bind ?_
    show wpAny _ _ (updateSeq P _) _ _ _
    have za : acc.size ≤ sizeLine := by
      have w1 : acc.toList.length = acc.size := by simp
      have w2 : (strValues done).length = done.length := by simp [strValues]
      have w3 : done.length = (ts.take i).length := by rw [← hdone, List.length_map]
      have w4 : (ts.take i).length ≤ i := by rw [List.length_take]; omega
      rw [hacc] at w1
      omega
    refine wpAny_updateSeq q1 rfl (wpAny_pure ⟨F.quiet_list_repr_loop _, ?_⟩) za
    have w5 : ((i : Int) + 1) = ((i + 1 : Nat) : Int) := by omega
    have w6 : base + piled (ts.take i) + (t.length + 2) = base + piled (ts.take (i + 1)) := by omega
    rw [w5, w6]
    refine ih (i + 1) H' _ (acc.push (.str t s'.toks)) _ (done ++ [(t, s'.toks)]) (by omega) hlt (hs.trans hs') ((I2.tok _).turnedL (ch := [P]) (fun b o hb q => (Heap.get?_update_other _ _ (fun z => hb (by rw [z]; exact List.mem_singleton.mpr rfl))).trans q) fun b hb => by rw [List.mem_singleton.mp hb]; exact hP') hP' (Heap.get?_update_self _ q1 rfl) ?_ ?_
    · simp [hacc, strValues]
    · rw [List.map_append, hdone, List.take_succ, ht]; rfl
theorem listO {A : Around} {g : List Code} {a : Addr} {xs : List V} {ts : List Str} {d base : Nat} {pins : List (Addr × Obj)} {σ : L2.St} {R : Result → Shared → Prop} {H : Hp} {s : Shared} (hx : ∀ a t xs, RS H0 (.ref a) t → H0 a ≠ some (.lst xs)) (h0 : H0 a = some (.lst xs)) (hsv : SvAll RS H0 xs ts d) (hne : xs ≠ []) (hs : Same H0 H) (I : Inv X pins σ H s)
    (hg : A.guards = some g) (hcl : ClrS RS H0 g (d + 1)) (hf : A.frames = X.A.frames) (hr : Room (k + d + 1) A) (hT : ∀ (i : Nat) (v : V), xs[i]? = some v → ∃ t e, ts[i]? = some t ∧ e ≤ d ∧ Els X RS H0 k v t e) (hsz : base + (listText ts).length ≤ sizeLine)
    (hR : ∀ H' s' u, Same H H' → Inv X pins σ H' s' → R (.ok (.ret (.str (listText ts) u))) s') :
    wpAny (model X.prog X.w) A.in1 (Builtin.listReprAt base ⟨[.ref a], []⟩) (fun fin s' => match fin with | .done f => R (.ok f) s' | .again c' => c'.quiet = true ∧ codeAny (model X.prog X.w) A c' R s') (fun e s' => R (.error e) s') s := by
  obtain ⟨its, rv, ⟨o, n, ho, _, _, hd⟩, _⟩ := I.list (SqL.of (hs _ _ h0))
  have hca : Clear g a := hcl a _ _ (Nat.le_refl _) (.lst h0 hsv)
  cases its with
  | nil => exact absurd (List.eq_nil_of_length_eq_zero rv.length) hne
  | cons y l =>
    refine wpAny_list_repr_head (A := A.in1) hg (fun v rest kw hm => listSameRef_of_ne (hca _ _ _ _ hm)) ho hd ?_
    refine wpAny_bind (m := newList []) (wpAny_newObj_type ?_)
    refine wpAny_pure ⟨F.quiet_list_repr_loop _, ?_⟩
    refine loopO (d := d) (P := s.heap.objs.size) (Hs := H) h0 hs (Nat.ne_of_lt (Heap.lt_size ho)) hg (fun rest kw b t e he hb => ?_) hf hr (svs_len hsv) hT hsz hR _ 0 H _ #[] _ [] rfl (Nat.zero_le _) (Same.refl _) (I.kept fun b o e => Heap.get?_push_of_some _ e) (I.fpOk (Nat.le_refl _) (I.hok.fresh (Nat.le_refl _))) (Heap.get?_push_size _ rfl) rfl (by simp)
    exact (hcl b t e (by omega) hb).cons fun z => by
      subst z
      have := sv_deep hx hb (.lst h0 hsv)
      omega
theorem els_lst {a : Addr} {xs : List V} {ts : List Str} {d : Nat} (hx : ∀ a t xs, RS H0 (.ref a) t → H0 a ≠ some (.lst xs)) (h0 : H0 a = some (.lst xs)) (hsv : SvAll RS H0 xs ts d) (hT : ∀ (i : Nat) (v : V), xs[i]? = some v → ∃ t e, ts[i]? = some t ∧ e ≤ d ∧ Els X RS H0 k v t e) : Els X RS H0 k (.ref a) (listText ts) (d + 1) := by
  intro pins σ H s u base A g E Q hs I ru hsz hg hcl hf hr hQ
  obtain rfl : u = .ref a := ru
  have hu : A.units < cLine := by have := hr.un; omega
  obtain ⟨its, rv, ⟨o, n, ho, hc, _, hd⟩, _⟩ := I.list (SqL.of (hs _ _ h0))
  by_cases hne : xs = []
  · subst hne
    cases hsv
    cases rv
    exact wpAny_pyReprUnder_ref (by omega) (wpAny_pyReprObjUnder_list_empty ⟨o, ho, hc⟩ hu ho hd ⟨_, _, rfl, hQ H _ (Same.refl _) (I.tok _)⟩)
  · refine wpAny_pyReprUnder_ref (by omega) (wpAny_pyReprObjUnder_twin (twin := "list.__repr__.under") ⟨o, ho, hc⟩ F.slot_list_repr.toG rfl hu ?_)
    exact call_twin_plain F.plain_list_repr_under F.entry_list_repr_under F.check_list_repr_under ⟨o, ho, hc⟩ F.slot_list_repr.toG (F.args_list_repr_1 _)
      (listO (R := callEnd _ _) hx h0 hsv hne hs I hg hcl hf hr hT hsz fun H' s' u s1 I1 => ⟨⟨_, _, rfl⟩, _, _, rfl, hQ H' s' s1 I1⟩)
theorem els_is {v : V} {t : Str} (h : ∀ u, RelV v u → ReprIs X.prog X.w u t) : Els X RS H0 k v t 0 := fun pins σ H s u base A g E Q hs I ru hsz _ _ _ _ hQ => h u ru base hsz A E s Q fun tk => hQ H _ (Same.refl _) (I.tok _)
theorem els_dct {a : Addr} (h : H0 a = some (.dK [])) : Els X RS H0 k (.ref a) (dictText []) 0 := by
  intro pins σ H s u base A g E Q hs I ru hsz hg hcl hf hr hQ
  obtain rfl : u = .ref a := ru
  obtain ⟨_, hsm, vs, hkv, o, es, ep, ho, hx, hd, _, hp, _⟩ := dk_of I.hok (hs _ _ h)
  have ev : vs = [] := by
    cases hkv
    rfl
  subst ev
  have ee : es.toList = [] := by
    generalize es.toList = l at hp
    cases hp
    rfl
  refine ReprK.dict (as := []) (d := 0) ho hx.1 hd hsm nofun (by rw [ee]; exact .nil) base hsz A g E s Q hg (fun b hb => ?_) (by have := hr.un; omega) (fun _ _ e => e) fun h' tk hk => hQ H _ (Same.refl _) (I.kept hk)
  rw [List.mem_singleton.mp hb]
  exact hcl a _ 0 (Nat.le_refl _) (.dct h)
mutual
theorem els_of (hx : ∀ a t xs, RS H0 (.ref a) t → H0 a ≠ some (.lst xs)) (hown : ∀ v t, RS H0 v t → Els X RS H0 k v t 0) : ∀ {v : V} {t : Str} {d : Nat}, Sv RS H0 v t d → Els X RS H0 k v t d
  | _, _, _, .non => els_is fun u r => by cases r; exact ReprIs.none
  | _, _, _, .bl b => els_is fun u r => by cases r; exact ReprIs.bool b
  | _, _, _, .int i h => els_is fun u r => by obtain ⟨t, rfl⟩ := r; exact ReprIs.int t h
  | _, _, _, .str x h => els_is fun u r => by obtain ⟨t, rfl⟩ := r; exact ReprIs.str x t h
  | _, _, _, .own h => hown _ _ h
  | _, _, _, .dct h => els_dct h
  | _, _, _, .lst h r => els_lst hx h r fun i v e => elsAll hx hown r i v e
theorem elsAll (hx : ∀ a t xs, RS H0 (.ref a) t → H0 a ≠ some (.lst xs)) (hown : ∀ v t, RS H0 v t → Els X RS H0 k v t 0) : ∀ {xs : List V} {ts : List Str} {d : Nat}, SvAll RS H0 xs ts d → ∀ (i : Nat) (v : V), xs[i]? = some v → ∃ t e, ts[i]? = some t ∧ e ≤ d ∧ Els X RS H0 k v t e
  | _, _, _, .nil, i, v, e => by simp at e
  | _, _, _, .cons (d := d1) h _, 0, v, e => by
    simp at e
    subst e
    exact ⟨_, d1, rfl, Nat.le_max_left _ _, els_of hx hown h⟩
  | _, _, _, .cons _ r, i + 1, v, e => by
    obtain ⟨t, e1, h1, h2, h3⟩ := elsAll hx hown r i v (by simpa using e)
    exact ⟨t, e1, by simpa using h1, Nat.le_trans h2 (Nat.le_max_right _ _), h3⟩
end
def OwnR (K : PySem.W.Frag) (C : Str) (sp : Sp) (js : List Nat) : Hp → V → Str → Prop := fun H v t => ∃ a dx fl, v = .ref a ∧ H a = some (.ins (He.ga K C) dx fl) ∧ ∀ H0, ExtN H H0 → sp (pick js ([.ref a] ++ [] ++ [])) H0 (fun y H' => y = .str t ∧ Same H0 H') (fun _ _ _ => False)
theorem ownR_same {K : PySem.W.Frag} {C : Str} {sp : Sp} {js : List Nat} {H H' : Hp} (s : Same H H') : ∀ v t, OwnR K C sp js H v t → OwnR K C sp js H' v t := fun v t h => by
  obtain ⟨a, dx, fl, rfl, h1, h2⟩ := h
  exact ⟨a, dx, fl, rfl, s _ _ h1, fun H0 s0 => h2 H0 ((ExtN.of s).trans s0)⟩
theorem ownR_x {K : PySem.W.Frag} {C : Str} {sp : Sp} {js : List Nat} {H H' : Hp} (s : ExtN H H') : ∀ v t, OwnR K C sp js H v t → OwnR K C sp js H' v t := fun v t h => by
  obtain ⟨a, dx, fl, rfl, h1, h2⟩ := h
  exact ⟨a, dx, fl, rfl, s _ _ h1 nofun, fun H0 s0 => h2 H0 (s.trans s0)⟩
end
def NoSum (K : PySem.W.Frag) (H : Hp) (v : V) : Prop := (∃ d, Dx K H v d) ∨ (∃ l xs, v = .ref l ∧ H l = some (.lst xs)) ∨ ∃ l xs, v = .ref l ∧ H l = some (.tup xs)
theorem NoSum.ty {K : PySem.W.Frag} {H : Hp} {v : V} (h : NoSum K H v) : ∃ T, T ∈ ["NoneType", "bool", "int", "str", "list", "tuple", "dict"] ∧ TyX K H v (.type T) := by
  rcases h with ⟨d, h⟩ | ⟨l, xs, rfl, h⟩ | ⟨l, xs, rfl, h⟩
  · exact ⟨tyD d, by cases d <;> simp [tyD], ty_dx h⟩
  · exact ⟨"list", by simp, .base (.lst h)⟩
  · exact ⟨"tuple", by simp, .base (.tup h)⟩
theorem noSum_dx {K : PySem.W.Frag} {H : Hp} {v : V} {d : PyData} (h : Dx K H v d) : NoSum K H v := .inl ⟨d, h⟩
theorem noSum_lst {K : PySem.W.Frag} {H : Hp} {l : Addr} {xs : List V} (h : H l = some (.lst xs)) : NoSum K H (.ref l) := .inr (.inl ⟨l, xs, rfl, h⟩)
theorem noSum_tup {K : PySem.W.Frag} {H : Hp} {l : Addr} {xs : List V} (h : H l = some (.tup xs)) : NoSum K H (.ref l) := .inr (.inr ⟨l, xs, rfl, h⟩)
theorem NoSum.x {K : PySem.W.Frag} {H H' : Hp} {v : V} (h : NoSum K H v) (s : ExtN H H') : NoSum K H' v := by
  rcases h with ⟨d, h⟩ | ⟨l, xs, rfl, h⟩ | ⟨l, xs, rfl, h⟩
  · exact .inl ⟨d, dx_x s h⟩
  · exact .inr (.inl ⟨l, xs, rfl, lst_x s h⟩)
  · exact .inr (.inr ⟨l, xs, rfl, s _ _ h nofun⟩)
theorem NoSum.id {K : PySem.W.Frag} {H : Hp} {v : V} (h : NoSum K H v) : flatB v = true ∨ ∃ r, v = .ref r := by
  rcases h with ⟨d, h⟩ | ⟨l, xs, rfl, h⟩ | ⟨l, xs, rfl, h⟩
  · cases h with
    | lst _ _ => exact .inr ⟨_, rfl⟩
    | tup _ _ => exact .inr ⟨_, rfl⟩
    | dct _ => exact .inr ⟨_, rfl⟩
    | _ => exact .inl rfl
  · exact .inr ⟨_, rfl⟩
  · exact .inr ⟨_, rfl⟩
theorem NoSum.same {K : PySem.W.Frag} {H H' : Hp} {v : V} (h : NoSum K H v) (s : Same H H') : NoSum K H' v := h.x (ExtN.of s)
def smW (d : PyData) : Bool := okX d && (decide (rbX d ≤ 1000000) && (decide (d.depth ≤ 20) && !d.hasDict))
theorem smW_bag {ps : Bag} (h : BagS ps) (hl : ps.length ≤ 12) : smW (bagD ps) = true := by
  have hp : ∀ d ∈ ps.map pairD, okX d = true ∧ rbX d ≤ 2020 := fun d hd => by
    obtain ⟨p, hp, rfl⟩ := List.mem_map.mp hd
    obtain ⟨h1, h2, h3⟩ := h p hp
    have hn := isName_len h1
    constructor
    · show (okX (.str p.1) && (okX (.int p.2) && true)) = true
      rw [show okX (.int p.2) = true from decide_eq_true (log2_le _ h2 h3)]
      have : okX (.str p.1) = true := by
        show (p.1.cps.toList.all fun c => decide (c < 16 ^ 8)) = true
        rw [List.all_eq_true]
        intro c hc
        have h5 := List.all_eq_true.mp (isName_let h1) c hc
        simp only [isLet, Bool.and_eq_true, decide_eq_true_eq] at h5
        exact decide_eq_true (by omega)
      rw [this]; rfl
    · show (10 * p.1.length + 2 + 2 + (1921 + 2 + 0)) + 3 ≤ 2020
      omega
  have h1 : okX (bagD ps) = true := okXs_all fun d hd => (hp d hd).1
  have h2 : rbX (bagD ps) ≤ 1000000 := by
    show rbXs (ps.map pairD) + 3 ≤ _
    have := rbXs_le (m := 2020) fun d hd => (hp d hd).2
    rw [List.length_map] at this
    have : ps.length * 2022 ≤ 12 * 2022 := Nat.mul_le_mul_right _ hl
    omega
  have h3 : ∀ ps : Bag, PyData.depthAll (ps.map pairD) ≤ 1 ∧ PyData.hasDictAll (ps.map pairD) = false := fun ps => by
    induction ps with
    | nil => exact ⟨Nat.zero_le _, rfl⟩
    | cons p ps ih => exact ⟨by
        have : (pairD p).depth = 1 := rfl
        simp only [List.map_cons, PyData.depthAll, this]
        omega, by
        simp only [List.map_cons, PyData.hasDictAll, ih.2]
        rfl⟩
  obtain ⟨h3, h4⟩ := h3 ps
  simp only [smW, Bool.and_eq_true, decide_eq_true_eq, h1, h2]
  exact ⟨trivial, trivial, (by show PyData.depthAll (ps.map pairD) + 1 ≤ 20; omega), by show (!PyData.hasDictAll (ps.map pairD)) = true; rw [h4]; rfl⟩
theorem listText_le (ts : List Str) : (listText ts).length ≤ (ts.map fun t => t.length + 2).sum + 2 := by
  unfold listText
  have h1 := textFrom_le ts 0 "["
  rw [str_app_len]
  have e1 : (Str.ofString "[").length = 1 := by decide
  have e2 : (Str.ofString "]").length = 1 := by decide
  rw [e1] at h1
  rw [e2]
  omega
section
variable {RS : Hp → V → Str → Prop} {H H' : Hp}
mutual
theorem sv_x (s : ExtN H H') (hR : ∀ v t, RS H v t → RS H' v t) : ∀ {v : V} {t : Str} {d : Nat}, Sv RS H v t d → Sv RS H' v t d
  | _, _, _, .non => .non
  | _, _, _, .bl b => .bl b
  | _, _, _, .int i h => .int i h
  | _, _, _, .str x h => .str x h
  | _, _, _, .own h => .own (hR _ _ h)
  | _, _, _, .dct h => .dct (s _ _ h nofun)
  | _, _, _, .lst h r => .lst (lst_x s h) (svs_x s hR r)
theorem svs_x (s : ExtN H H') (hR : ∀ v t, RS H v t → RS H' v t) : ∀ {xs : List V} {ts : List Str} {d : Nat}, SvAll RS H xs ts d → SvAll RS H' xs ts d
  | _, _, _, .nil => .nil
  | _, _, _, .cons h r => .cons (sv_x s hR h) (svs_x s hR r)
end
end
theorem w_mkSumV {K : PySem.W.Frag} {H : Hp} {Q : VK} {sp : Sp} {js : List Nat} {dvs vs zs : List V} {c : Int} {ps : Bag} {bv : V} {E : XK} (hp : ∀ x, pick js ((V.ref x :: vs) ++ zs ++ dvs) = [.ref x, .int c, bv]) (hd : Dp K H bv (bagD ps)) (hv : SumV c ps) (k : ∀ v H', Same H H' → SumO K H' v c ps → Q v H')
    (hsp : sp = spInitX K := by rfl) : MkG (He.ga K "Summary") sp js dvs vs zs H Q E := by
  have hl := hv.len
  have c1 := hv.c1
  have c8 := hv.c8
  refine w_mkSumX hp (.int _) (dp_dx hd) hv.ok.sz (fun hb => absurd hb (by show ¬ (decide (_ ≤ _) && decide (_ ≤ _)) = false; rw [decide_eq_true c1, decide_eq_true c8]; decide)) (fun c' ec _ _ => ?_) hsp
  cases ec
  refine ⟨fun _ a dx H' s e => k _ H' s ⟨a, dx, bv, rfl, e, dp_same s hd⟩, fun ho => absurd ho ?_⟩
  rw [show verOk (badF c) (bagD ps) = true from (by show (firstBad _ _).isNone = true; rw [bag_good hv.ok (by omega)]; rfl)]
  decide
def Rows (H : Hp) (R : Addr) (wd : Str) (P : V → Prop) (n : Nat) (ls : List V) : Prop := H R = some (.lst ls) ∧ ls.length = n ∧ ∀ y ∈ ls, ∃ l z, y = .ref l ∧ l ≠ R ∧ H l = some (.lst [.str wd, z]) ∧ P z
end TP
namespace TP
open PySem PySem.Spec PyProof.Rows L2 TL
def isDig (c : Nat) : Bool := decide (48 ≤ c) && decide (c ≤ 57)
def DR (n : Nat) (l : List Nat) : Prop := ∀ p s q, l = p ++ s ++ q → (∀ c ∈ s, isDig c = true) → s.length ≤ n
theorem DR.mono {n m : Nat} {l : List Nat} (h : DR n l) (hm : n ≤ m) : DR m l := fun p s q e hs => Nat.le_trans (h p s q e hs) hm
theorem DR.of_len {n : Nat} {l : List Nat} (h : l.length ≤ n) : DR n l := fun p s q e _ => by
  rw [e, List.length_append, List.length_append] at h; omega
theorem DR.sub {n : Nat} {l a b c : List Nat} (h : DR n l) (e : l = a ++ b ++ c) : DR n b := fun p s q eb hs => h (a ++ p) s (q ++ c) (by rw [e, eb]; simp) hs
theorem DR.take {n k : Nat} {l : List Nat} (h : DR n l) : DR n (l.take k) := h.sub (a := []) (c := l.drop k) (by rw [List.nil_append, List.take_append_drop])
theorem DR.drop {n k : Nat} {l : List Nat} (h : DR n l) : DR n (l.drop k) := h.sub (a := l.take k) (c := []) (by rw [List.append_nil, List.take_append_drop])
theorem DR.app {n m : Nat} {a b : List Nat} (ha : DR n a) (hb : DR m b) : DR (n + m) (a ++ b) := fun p s q e hs => by
  have h1 : (s.take (a.length - p.length)).length ≤ n := by
    by_cases hp : p.length ≤ a.length
    · refine ha p (s.take (a.length - p.length)) (q.take (a.length - p.length - s.length)) ?_ fun c hc => hs c (List.mem_of_mem_take hc)
      have := congrArg (List.take a.length) e
      rw [List.take_left', List.append_assoc, List.take_append, List.take_of_length_le hp, List.take_append] at this
      · rw [List.append_assoc]; exact this
      · rfl
    · rw [show a.length - p.length = 0 by omega, List.take_zero]; exact Nat.zero_le _
  have h2 : (s.drop (a.length - p.length)).length ≤ m := by
    refine hb (p.drop a.length) (s.drop (a.length - p.length)) (q.drop (a.length - p.length - s.length)) ?_ fun c hc => hs c (List.mem_of_mem_drop hc)
    have := congrArg (List.drop a.length) e
    rw [List.drop_left', List.append_assoc, List.drop_append, List.drop_append] at this
    · rw [this, List.append_assoc]
    · rfl
  have := List.take_append_drop (a.length - p.length) s
  have := congrArg List.length this
  rw [List.length_append] at this
  omega
theorem DR.sep {n c : Nat} {a b : List Nat} (ha : DR n a) (hb : DR n b) (hc : isDig c = false) : DR n (a ++ c :: b) := fun p s q e hs => by
  by_cases h1 : p.length + s.length ≤ a.length
  · refine ha p s (q.take (a.length - p.length - s.length)) ?_ hs
    have := congrArg (List.take a.length) e
    rw [List.take_left', List.append_assoc, List.take_append, List.take_of_length_le (by omega), List.take_append, List.take_of_length_le (by omega)] at this
    · rw [List.append_assoc]; exact this
    · rfl
  · by_cases h2 : a.length < p.length
    · refine hb (p.drop (a.length + 1)) s q ?_ hs
      have := congrArg (List.drop (a.length + 1)) e
      rw [List.drop_append, List.drop_eq_nil_of_le (by omega), List.nil_append, show a.length + 1 - a.length = 1 by omega, List.append_assoc, List.drop_append, show a.length + 1 - p.length = 0 by omega] at this
      rw [List.append_assoc]
      exact this
    · exfalso
      have h3 : (a ++ c :: b)[a.length]? = (p ++ s ++ q)[a.length]? := by rw [e]
      rw [List.getElem?_append_right (Nat.le_refl _), Nat.sub_self, List.append_assoc, List.getElem?_append_right (by omega), List.getElem?_append_left (by omega)] at h3
      have hm := List.mem_of_getElem? h3.symm
      rw [hs c hm] at hc
      cases hc
end TP
namespace TP
open PySem PySem.Spec PyProof.Rows L2 TL
theorem join_dr {n : Nat} : ∀ {parts : List (List Nat)}, (∀ p ∈ parts, DR n p) → DR n (joinL [32] parts)
  | [], _ => DR.of_len (Nat.zero_le _)
  | [p], h => h p (List.mem_singleton.mpr rfl)
  | p :: q :: r, h => by
    have ih := join_dr (parts := q :: r) fun z hz => h z (List.mem_cons_of_mem _ hz)
    exact DR.sep (c := 32) (h p List.mem_cons_self) ih rfl
structure TxtOk (n m : Nat) (t : Str) : Prop where
  len : t.length ≤ n
  dig : DR m (tl t)
  asc : ∀ c ∈ tl t, c < 128
theorem join_asc : ∀ {parts : List (List Nat)}, (∀ p ∈ parts, ∀ c ∈ p, c < 128) → ∀ c ∈ joinL [32] parts, c < 128
  | [], _, c, h => by cases h
  | [p], hp, c, h => hp p (List.mem_singleton.mpr rfl) c h
  | p :: q :: r, hp, c, h => by
    have ih := join_asc (parts := q :: r) fun z hz => hp z (List.mem_cons_of_mem _ hz)
    rcases List.mem_append.mp (show c ∈ p ++ ([32] ++ joinL [32] (q :: r)) from h) with h | h
    · exact hp p List.mem_cons_self c h
    · rcases List.mem_append.mp h with h | h
      · rw [List.mem_singleton.mp h]; decide
      · exact ih c h
theorem TxtOk.app {a b : Str} {n m i j : Nat} (ha : TxtOk n i a) (hb : TxtOk m j b) : TxtOk (n + m) (i + j) (a ++ b) := ⟨by rw [app_len]; exact Nat.add_le_add ha.len hb.len, by rw [tl_app]; exact ha.dig.app hb.dig, fun c hc => by
  rw [tl_app] at hc
  rcases List.mem_append.mp hc with h | h
  · exact ha.asc c h
  · exact hb.asc c h⟩
theorem TxtOk.mono {a : Str} {n m i j : Nat} (ha : TxtOk n i a) (h1 : n ≤ m) (h2 : i ≤ j) : TxtOk m j a := ⟨Nat.le_trans ha.len h1, ha.dig.mono h2, ha.asc⟩
theorem shows_l2 {d e : PyData} (h1 : okD d = true) (h2 : okD e = true) (r : rb d + rb e ≤ 16777000) (p1 : d.depth ≤ 58) (p2 : e.depth ≤ 58) : Shows (.list [d, e]) := ⟨by
  show (okD d && (okD e && true)) = true
  rw [h1, h2]; rfl, by
  show rb d + 2 + (rb e + 2 + 0) + 2 ≤ 16777216
  omega, by
  simp only [PyData.depth, PyData.depthAll]
  omega⟩
theorem bag_show3 {ps : Bag} (h : BagS ps) : okD (bagD ps) = true ∧ rb (bagD ps) ≤ 2100 * ps.length + 3 ∧ (bagD ps).depth ≤ 2 := by
  obtain ⟨a, b, c⟩ := bag_shows_aux ps h
  exact ⟨a, by show rbs (ps.map pairD) + 3 ≤ _; omega, by show PyData.depthAll (ps.map pairD) + 1 ≤ 2; omega⟩
theorem txt_show3 {t : Str} {n m : Nat} (h : TxtOk n m t) : okD (.str t) = true ∧ rb (.str t) ≤ 10 * n + 2 ∧ (PyData.str t).depth ≤ 2 := by
  refine ⟨List.all_eq_true.mpr fun c hc => decide_eq_true (Nat.lt_of_lt_of_le (h.asc c hc) (by decide)), ?_, by simp only [PyData.depth]; omega⟩
  have := h.len
  show 10 * t.length + 2 ≤ _
  omega
end TP
namespace TP
open PySem PySem.Spec PyProof.Rows L2 LamX TL
theorem ptS_short {p : Str × Int} (h : isName p.1 = true) (h0 : 0 ≤ p.2) (h1 : p.2 ≤ 10 ^ 100) : (ptS p).length ≤ 110 := by
  have hl := isName_len h
  have e1 : Str.length (":" : Str) = 1 := by decide +kernel
  have hi := int_short h0 h1
  unfold ptS
  rw [app_len, app_len]
  omega
theorem pt_asc {p : Str × Int} (h : isName p.1 = true) (h0 : 0 ≤ p.2) : ∀ c ∈ tl (ptS p), c < 128 := fun c hc => by
  unfold ptS at hc
  rw [tl_app, tl_app, List.mem_append, List.mem_append] at hc
  rcases hc with (hc | hc) | hc
  · have := tl_name h c hc; omega
  · have : tl (":" : Str) = [58] := by decide +kernel
    rw [this] at hc
    rw [List.mem_singleton.mp hc]; decide
  · rw [tl_intS h0] at hc
    have := digit_range hc; omega
theorem cText_ok {ps : Bag} (h : ∀ p ∈ ps, isName p.1 = true ∧ 0 ≤ p.2 ∧ p.2 ≤ 10 ^ 100) : TxtOk (111 * ps.length + 1) 110 (cText ps) := by
  by_cases h0 : ps = []
  · subst h0
    exact ⟨by decide +kernel, DR.of_len (by decide +kernel), by decide +kernel⟩
  have e : cText ps = Str.join " " (ps.map ptS) := by unfold cText; rw [if_neg h0, txt_join_eq]
  have e2 : tl (cText ps) = joinL [32] ((ps.map ptS).map tl) := by
    rw [e, TL.tl_join]
    rw [show tl (" " : Str) = [32] from by decide +kernel]
  refine ⟨?_, ?_, ?_⟩
  · rw [e]
    refine Nat.le_trans (StrLaws.join_length_le _ _) ?_
    have e1 : Str.length (" " : Str) = 1 := by decide +kernel
    rw [e1]
    clear h0 e e2
    induction ps with
    | nil => simp
    | cons p r ih =>
      have h2 := ih fun q hq => h q (List.mem_cons_of_mem _ hq)
      obtain ⟨a, b, c⟩ := h p List.mem_cons_self
      have := ptS_short a b c
      rw [List.map_cons, List.map_cons, List.sum_cons, List.length_cons, List.length_cons]
      omega
  · rw [e2]
    refine join_dr fun q hq => ?_
    obtain ⟨w, hw, rfl⟩ := List.mem_map.mp hq
    obtain ⟨p, hp, rfl⟩ := List.mem_map.mp hw
    obtain ⟨a, b, c⟩ := h p hp
    have := ptS_short a b c
    exact DR.of_len (by rw [← len_tl]; exact this)
  · rw [e2]
    refine join_asc fun z hz => ?_
    obtain ⟨x, hx, rfl⟩ := List.mem_map.mp hz
    obtain ⟨p, hp, rfl⟩ := List.mem_map.mp hx
    obtain ⟨a, b, _⟩ := h p hp
    exact pt_asc a b
theorem pairD_inj : ∀ {ps qs : Bag}, ps.map pairD = qs.map pairD → ps = qs
  | [], [], _ => rfl
  | [], q :: qs, h => by cases h
  | p :: ps, [], h => by cases h
  | (a, b) :: ps, (c, d) :: qs, h => by
    rw [List.map_cons, List.map_cons] at h
    obtain ⟨h1, h2⟩ := List.cons.inj h
    have h1 : PyData.tuple [.str a, .int b] = .tuple [.str c, .int d] := h1
    injection h1 with h1
    injection h1 with h3 h4
    injection h4 with h4 _
    injection h3 with h3
    injection h4 with h4
    rw [pairD_inj h2, h3, h4]
theorem ver_bag {ps : Bag} {m : Int} (h : verOk (badF m) (bagD ps) = true) : BagOk ps ∧ ((ps.length : Int) ≤ m ∨ ps = []) := by
  have h : (firstBad (ps.map pairD) m).isNone = true := h
  obtain ⟨qs, e, h1, h2⟩ := bad_inv (Option.isNone_iff_eq_none.mp h)
  cases pairD_inj e
  exact ⟨h1, h2⟩
theorem ps_try_mk {X : Cx} {k n : Nat} {C q x : Str} {st : Stmt} {dvs : List V} {ps : List Str} {js : List Nat} {sp : Sp} {fs : List Str} {p rpos np pos pos' cpos : Pos} {e : Expr} {es : List Expr} {t : TA} {c : Value} {suite : List Stmt} {b₀ : Stmt} {ts : Addr → Value → Option Addr → TS} (K : PySem.W.Frag)
    (c0 : ClsF X.K X.mg C fs) (F : HasM X.prog X.w X.K X.mg X.base (L2.CX X.prog X.w) k C "__init__" q st dvs ps sp) (hb : BindJ "__init__" q st ps dvs.length (n + 1) [] js) (hr : Room (k + 1) X.A) (hg : X.A.guards = some []) (hgl : Gl X C) {t1 : List (Addr × Obj) → (Value → Shared → Prop) → TA} (ha : ∀ (pn : List (Addr × Obj)) (xe : Value → Shared → Prop), PA (X.tr pn xe) (e :: es) (t1 pn xe)) (ht : ∀ (pn : List (Addr × Obj)) (xe : Value → Shared → Prop), t1 pn xe = t)
    (hs : X.stack = X.env :: X.outer) (hf : X.env.frame = some X.env.locals) (hc : Names X x c)
    (hsu : ∀ (a : Addr) (oe : Obj) (cls : Value) (d : Option Addr) (pn : List (Addr × Obj)), Zc cls d oe → (∃ vs, oe.data = .fields vs) → PSs (X.suite a ((a, oe) :: pn)) (b₀ :: suite) (ts a cls d))
    (hdb : (C == ("__debug__" : Str)) = false := by decide) (he : starEach (e :: es) X.env = (false, eval e X.env) :: starEach es X.env := by rfl) (hpl : (backTo cpos (starEach es X.env)).any (·.1) = false := by rfl) (hK : X.K = K := by rfl) :
    PS X (.Try [.Return (some (.Call (.Name C p) (e :: es) [] cpos)) rpos] [.ExceptHandler (some (.Name x np)) none (b₀ :: suite) pos'] [] [] pos)
      (fun D σ H => tRet (tMkN (He.ga K C) sp n 0 js dvs (fun cls d H' => ∀ σ', wOnly X.K c ts (fun _ _ _ _ => False) D cls d σ' H') t tNil) D σ H) := by
  subst hK
  exact ps_try_only (tb := fun W => tRet (tMkN (He.ga X.K C) sp n 0 js dvs (fun cls d H' => ∀ σ', W cls d σ' H') t tNil)) hs hf hc L2.takes0 (fun W pn xe tk _ => pss_one (ps_ret (pe_mk (X := X.tr pn xe) c0 F hb hr hg hgl (passes_call tk fun cls d σ' H' h => h σ') (by rw [← ht pn xe]; exact ha pn xe) hdb he hpl))) hsu
end TP
namespace TPY
open PySem PySem.W PySem.W.KTBy
open PySem.Builtin.Int (intBits)
section
variable {prog : Program} {w : World} {M : Model} {A : Around} {E : Value → Shared → Prop} {s : Shared} {x : Int} {k : Nat} {t u v : Tok}
theorem to_bigW {Q : Value → Shared → Prop} (hk : k ≤ 1000) (h0 : 0 ≤ x) (h1 : x < (256 : Int) ^ k) (h : ∀ (b : Array UInt8) t' k', KBw.bInts b = (little k x).reverse → Q (.bytes b t') { s with toks := k' }) :
    wpAny (model prog w) A (call (.builtin "int.to_bytes") [.int x t, .int (k : Int) u, .str (PySem.Str.ofString "big") v]) Q E s := by
  have hb := bits_le rfl h0 h1
  refine wpAny_call_entry slot (typeIs_int s x t) entry ?_ (args _ _ _)
  show wpAny _ _ (Builtin.Int.intOfSelf (.int x t) >>= fun y => _) _ _ s
  refine wpAny_bind (wpAny_of_eq (a := x) rfl ?_)
  show wpAny _ _ (Builtin.Int.intBindNamed "to_bytes" ["length", "byteorder", "signed"] 0 2 [.int (k : Int) u, .str (PySem.Str.ofString "big") v] [] >>= fun l => _) _ _ s
  refine wpAny_bind (wpAny_of_eq (a := [some (.int (k : Int) u), some (.str (PySem.Str.ofString "big") v), none]) (by kernel_rfl) ?_)
  show wpAny _ _ (Builtin.Int.intIndex "int.to_bytes" (.int (k : Int) u) >>= fun n => _) _ _ s
  refine wpAny_bind (wpAny_of_eq (a := (k : Int)) rfl ?_)
  refine if_not (by show (decide _ || decide _) = false; rw [decide_eq_false (by omega), decide_eq_false (by omega)]; rfl) ?_
  refine wpAny_bind (wpAny_of_eq (a := PySem.Str.ofString "big") (by kernel_rfl) ?_)
  refine wpAny_bind (wpAny_of_eq (a := false) rfl ?_)
  refine wpAny_bind (wpAny_of_eq (a := false) (by kernel_rfl) ?_)
  refine wpAny_ite_false (decide_eq_false (by omega)) ?_
  refine wpAny_ite_false (decide_eq_false (by omega)) ?_
  refine wpAny_ite_false (decide_eq_false (show ¬ ((k : Int) > (sizeLine : Int)) by rw [sizeLine_eq]; omega)) ?_
  refine if_not (by show (decide (x < 0) && !false) = false; rw [decide_eq_false (by omega)]; rfl) ?_
  refine if_not (by show (_ && decide ((intBits x : Int) > 8 * (k : Int))) = false; rw [decide_eq_false (by omega), Bool.and_false]) ?_
  refine wpAny_bind (wpAny_mkBytes (wpAny_pure ⟨_, rfl, h _ _ _ ?_⟩) (by show (List.reverse (low x (Int.toNat (k : Int)))).length ≤ sizeLine; rw [List.length_reverse, low_length, Int.toNat_natCast, sizeLine_eq]; omega))
  show (List.map (fun c : UInt8 => ((c.toNat : Nat) : Int)) (List.reverse (low x (Int.toNat (k : Int))))) = (little k x).reverse
  rw [Int.toNat_natCast, List.map_reverse, low_ints h0 h1, ← little_eq]
end
end TPY
namespace TPY
open PySem PySem.W PySem.W.KFB
section
variable {prog : Program} {w : World} {M : Model} {A : Around} {E : Value → Shared → Prop} {s : Shared}
theorem grownW {n : Nat} {Q : Value → Shared → Prop} (hn : n < 2 ^ 8000) (h : Q (.int (n : Int) s.toks) { s with toks := s.toks + 1 }) : wpAny M A (mkIntGrown (n : Int)) Q E s := by
  unfold mkIntGrown
  have hl : ¬ ((n : Int).natAbs.log2 ≥ bitsLine) := by
    rw [Int.natAbs_natCast]
    have hb : bitsLine = 134217728 := by first | rfl | decide
    by_cases hz : n = 0
    · subst hz
      rw [hb]
      decide
    · have h1 := (Nat.log2_lt hz).mpr hn
      omega
  rw [if_neg hl]
  exact wpAny_mkInt h
theorem tree_bigW {b : Array UInt8} {t u : Tok} {P : Fin → Shared → Prop} (hl : b.size ≤ 1000) (h : P (.done (.ret (.int (value (KBw.bInts b)) s.toks))) { s with toks := s.toks + 1 }) :
    wpAny M A (Builtin.«int.from_bytes» ⟨[.type "int", .bytes b t, .str (PySem.Str.ofString "big") u], []⟩) P E s := by
  have hv : ((b.toList.foldl (fun (acc : Nat) (b : UInt8) => acc * 256 + b.toNat) 0 : Nat) : Int) = value (KBw.bInts b) := fold_cast b.toList 0
  have hn : b.toList.foldl (fun (acc : Nat) (b : UInt8) => acc * 256 + b.toNat) 0 < 2 ^ 8000 := by
    have h1 := fold_lt b.toList 0
    rw [Nat.zero_add, Nat.one_mul, Array.length_toList] at h1
    have h2 : 256 ^ b.size ≤ 256 ^ 1000 := Nat.pow_le_pow_right (by decide) hl
    have h3 : (256 : Nat) ^ 1000 = 2 ^ 8000 := by
      have e2 : (256 : Nat) = 2 ^ 8 := by decide
      rw [e2, ← Nat.pow_mul]
    omega
  unfold Builtin.«int.from_bytes»
  refine wpAny_bind (wpAny_of_eq (a := true) type_int ?_)
  refine if_not rfl ?_
  refine wpAny_bind (wpAny_of_eq (a := true) F.conv_sub_int ?_)
  refine if_not rfl ?_
  refine wpAny_bind (wpAny_of_eq (a := [some (.bytes b t), some (.str (PySem.Str.ofString "big") u), none]) (by kernel_rfl) ?_)
  refine wpAny_bind (wpAny_of_eq (a := PySem.Str.ofString "big") (by kernel_rfl) ?_)
  refine wpAny_bind (wpAny_of_eq (a := false) rfl ?_)
  refine wpAny_bind (wpAny_of_eq (a := false) (by kernel_rfl) ?_)
  refine wpAny_bind (wpAny_of_eq (a := b) rfl ?_)
  show wpAny _ _ (mkIntGrown (b.toList.foldl (fun (acc : Int) (b : UInt8) => acc * 256 + (b.toNat : Int)) ((0 : Nat) : Int)) >>= fun v => _) _ _ _
  rw [foldI_eq]
  refine wpAny_bind (grownW hn ?_)
  rw [hv]
  refine if_so (by decide +kernel) ?_
  exact wpAny_bind (wpAny_pure (wpAny_pure h))
end
end TPY
namespace TPY
open PySem PySem.W PySem.W.KSb PySem.Builtin
section
variable {prog : Program} {w : World} {M : Model} {A : Around} {E : Value → Shared → Prop} {s : Shared} {x : PySem.Str} {t u : Tok} {id : String} {self : Value}
theorem no_bad7 {x : PySem.Str} (h : Asc x) : x.cps.findIdx? _codecs.asciiCodec.bad = none := by
  rw [Array.findIdx?_eq_none_iff]
  intro c hc
  exact decide_eq_false (by have := h c (Array.mem_toList_iff.mpr hc); omega)
theorem fold7 : ∀ (l : List Nat) (acc : Array UInt8), l.foldl (fun acc y => acc ++ (_codecs.asciiCodec.bytesOf y).toArray) acc = acc ++ (l.map Nat.toUInt8).toArray
  | [], acc => by
    show acc = acc ++ #[]
    rw [Array.append_empty]
  | c :: r, acc => by
    rw [List.foldl_cons, fold7 r, List.map_cons]
    apply Array.toList_inj.mp
    simp [_codecs.asciiCodec]
theorem wp_enc7 {Q : Array UInt8 → Shared → Prop} (ha : Asc x) (hz : x.length ≤ 16777216) (h : Q (enc x) s) : wpAny M A (_codecs.encodeNarrow id _codecs.asciiCodec none self x) Q E s := by
  have hz0 : ¬ ((#[] : Array UInt8).size > sizeLine) := by
    rw [sizeLine_eq]
    exact Nat.not_lt.mpr (Nat.zero_le _)
  have hz1 : ¬ ((enc x).size > sizeLine) := by
    rw [enc_size, sizeLine_eq]
    omega
  have hout : ((x.cps.extract 0 x.cps.size).extract 0 x.cps.size).foldl (fun acc y => acc ++ (_codecs.asciiCodec.bytesOf y).toArray) #[] = enc x := by
    rw [whole_extract, whole_extract, ← Array.foldl_toList, fold7 x.cps.toList #[], Array.empty_append]
    rfl
  unfold _codecs.encodeNarrow
  refine wpAny_bind ?_
  rw [KPc.range_list]
  cases hn : x.length with
  | zero =>
    show wpAny M A (forIn ([] : List Nat) _ _) _ E s
    rw [List.forIn_nil]
    refine wpAny_pure (wpAny_pure ?_)
    have e : enc x = #[] := by
      apply Array.eq_empty_of_size_eq_zero
      rw [enc_size, hn]
    rw [e] at h
    exact h
  | succ n =>
    have h0 : 0 < x.cps.size := by
      show 0 < x.length
      omega
    have hget : x.cps[0]? = some (x.cps[0]'h0) := Array.getElem?_eq_getElem h0
    have hc : x.cps[0]'h0 < 128 := ha _ (Array.mem_toList_iff.mpr (Array.getElem_mem h0))
    have hbad : _codecs.asciiCodec.bad (x.cps[0]'h0) = false := decide_eq_false (by omega)
    have hclean : (((x.cps.extract 0 x.cps.size).findIdx? _codecs.asciiCodec.bad).getD (x.cps.extract 0 x.cps.size).size) = x.cps.size := by
      rw [whole_extract, no_bad7 ha]
      rfl
    rw [List.range'_succ]
    refine KPc.turn ?_
    refine wpAny_ite (KBy.ite_no hz0 ?_)
    try dsimp only
    rw [hget]
    try dsimp only
    refine wpAny_ite (KBc.ite_yes (by rw [hbad]; rfl) ?_)
    rw [hclean, hout]
    try dsimp only
    refine wpAny_pure ?_
    cases n with
    | zero =>
      show wpAny M A (forIn ([] : List Nat) _ _) _ E s
      rw [List.forIn_nil]
      exact wpAny_pure (wpAny_pure h)
    | succ m =>
      rw [List.range'_succ]
      refine KPc.turn ?_
      refine wpAny_ite (KBy.ite_no hz1 ?_)
      try dsimp only
      have hend : x.cps[0 + x.cps.size]? = none := Array.getElem?_eq_none (by omega)
      rw [hend]
      try dsimp only
      exact wpAny_pure (wpAny_pure h)
theorem road7 (id : String) (self : Value) (x : PySem.Str) (errors : Option PySem.Str) : _codecs.encodeRoad id self x (PySem.Str.ofString "ascii") errors = (do mkBytes (← _codecs.encodeNarrow id _codecs.asciiCodec errors self x)) := by
  first | rfl | (unfold _codecs.encodeRoad; rfl) | (unfold _codecs.encodeRoad; simp only []; rfl) | decide
theorem tree7 (x : PySem.Str) (t u : Tok) : «str.encode» ⟨[.str x t, .str (PySem.Str.ofString "ascii") u], []⟩ = (do ret (← _codecs.encodeRoad "str.encode" (.str x t) x (PySem.Str.ofString "ascii") none)) := by
  first | rfl | kernel_rfl
theorem args7 (a b : Value) : argsOk "str.encode" ⟨[a, b], []⟩ := by unfold argsOk; kernel_rfl
theorem meets7 {x : PySem.Str} {t u : Tok} (ha : Asc x) (hz : x.length ≤ 16777216) : Meets («str.encode» ⟨[.str x t, .str (PySem.Str.ofString "ascii") u], []⟩) (fun _ R s => ∀ c t' k, KBw.bInts c = codes x → R (.ok (.ret (.bytes c t'))) { s with toks := k }) := by
  refine .of_wp fun prog w A R s h => ?_
  rw [tree7, road7]
  refine wpAny_bind ?_
  refine wpAny_bind (wp_enc7 ha hz ?_)
  refine wpAny_mkBytes ?_ (by rw [enc_size, sizeLine_eq]; exact hz)
  exact wpAny_pure ⟨_, rfl, h _ _ _ (enc_ints ha)⟩
theorem encode7 {Q : Value → Shared → Prop} (ha : Asc x) (hz : x.length ≤ 16777216) (h : ∀ (c : Array UInt8) t' k, KBw.bInts c = codes x → Q (.bytes c t') { s with toks := k }) :
    wpAny (model prog w) A (call (.builtin "str.encode") [.str x t, .str (PySem.Str.ofString "ascii") u]) Q E s :=
  call_meets PySem.F.slot_str_encode (typeIs_str s x t) PySem.F.entry_str_encode (args7 _ _) (meets7 ha hz) h
end
end TPY
namespace TP
open PySem PySem.Spec PyProof.Rows L2
abbrev codesT (x : Str) : List Int := PySem.W.KSb.codes x
section
variable {X : Cx} {o e e1 e2 : Expr} {es : List Expr} {to t1 t2 : TE} {t : TA} {apos cpos pos : Pos}
def rToBigW : V → List V → Hp → VK → Prop := fun x vs H Q => ∃ (n : Int) (k : Nat), x = .int n ∧ vs = [.int (k : Int), .str "big"] ∧ k ≤ 1000 ∧ 0 ≤ n ∧ n < (256 : Int) ^ k ∧ Q (.byt (byteArr (PySem.W.KTBy.little k n).reverse)) H
theorem mt_to_bigW : MtR X "int.to_bytes" rToBigW := by
  intro pins s σ H x vs v us Q I rx rv h
  obtain ⟨n, k, rfl, rfl, hk, h0, h1, q⟩ := h
  obtain ⟨u1, u2, rfl, ru1, ru2⟩ := rv.two
  obtain ⟨t, rfl⟩ := rx
  obtain ⟨t1, rfl⟩ := ru1
  obtain ⟨t2, rfl⟩ := ru2
  refine TPY.to_bigW hk h0 h1 fun b t' k' hb => ?_
  have e := byteArr_of hb
  subst e
  exact ⟨.byt (byteArr (PySem.W.KTBy.little k n).reverse), H, I.tok _, ⟨t', rfl⟩, q⟩
theorem pe_toBigW (ho : PE X o to) (h1 : PE X e1 t1) (h2 : PE X e2 t2) (hbase : attributeBase o "to_bytes" X.env (eval o X.env) = eval o X.env := by rfl)
    (hfew : ((backTo cpos (starEach [e1, e2] X.env)).all (fun x => !x.1) && (backToKw cpos (keywordEach [] X.env)).all (fun x => x.1.isSome) && decide ([e1, e2].length + ([] : List Keyword).length + (if ([] : List Keyword).isEmpty then 0 else 1) < 30)) = true := by rfl)
    (hline : (apos.endLine == cpos.line) = true := by rfl) (hs : starEach [e1, e2] X.env = (false, eval e1 X.env) :: starEach [e2] X.env := by rfl) (hs2 : starEach [e2] X.env = (false, eval e2 X.env) :: starEach [] X.env := by rfl) (hpl : (backTo cpos (starEach [e2] X.env)).any (·.1) = false := by rfl) :
    PE X (.Call (.Attribute o "to_bytes" apos) [e1, e2] [] cpos) (tBM X.K "int" rToBigW to (tCons t1 (tCons t2 tNil))) :=
  pe_bm PySem.F.plainAttrs_int PySem.W.KTBy.slot PySem.W.KTBy.type_eq mt_to_bigW ho (pa_cons h1 (pa_cons h2 pa_nil hs2) hs) hbase hfew hline hs hpl
def rEnc7 : V → List V → Hp → VK → Prop := fun x vs H Q => ∃ y : Str, x = .str y ∧ vs = [.str "ascii"] ∧ PySem.W.KSb.Asc y ∧ y.length ≤ 16777216 ∧ Q (.byt (byteArr (codesT y))) H
theorem mt_enc7 : MtR X "str.encode" rEnc7 := by
  intro pins s σ H x vs v us Q I rx rv h
  obtain ⟨y, rfl, rfl, ha, hz, q⟩ := h
  obtain ⟨u1, rfl, ru1⟩ := rv.one
  obtain ⟨t, rfl⟩ := rx
  obtain ⟨t1, rfl⟩ := ru1
  refine TPY.encode7 ha hz fun b t' k' hb => ?_
  have e := byteArr_of hb
  subst e
  exact ⟨.byt (byteArr (codesT y)), H, I.tok _, ⟨t', rfl⟩, q⟩
def rFromW : List V → Hp → VK → Prop := fun vs H Q => ∃ ks : List Int, B8 ks ∧ ks.length ≤ 1000 ∧ vs = [.byt (byteArr ks), .str "big"] ∧ Q (.int (PySem.W.KFB.value ks)) H
def tFromW (to : TE) (t : TA) : TE := fun σ H Q => to σ H fun x H1 => x = .ty "int" ∧ ∀ u, H1 u = none → t σ (upd H1 u (fbHO u)) fun vs H2 => H2 u = some (fbHO u) ∧ rFromW vs H2 Q
theorem pe_fromBytesW {pl : Sem Bool} (ho : PE X o to) (ha : PA X (e :: es) t) (hst : starEach (e :: es) X.env = (false, eval e X.env) :: starEach es X.env := by rfl) (hpl : (backTo pos (starEach es X.env)).any (·.1) = false := by rfl)
    (ht : eval (.Call (.Attribute o "from_bytes" apos) (e :: es) [] pos) X.env = (do
      let ov ← eval o X.env
      standAt apos.atName
      let (f, first) ← holding [ov] (getMethod ov "from_bytes" pl)
      callWith pos f first (backTo pos (starEach (e :: es) X.env)) (backToKw pos (keywordEach [] X.env))) := by rfl) :
    PE X (.Call (.Attribute o "from_bytes" apos) (e :: es) [] pos) (tFromW to t) := by
  refine ⟨fun pins s σ H Q I h => ?_⟩
  refine PySem.W.methodCall_KW (pl := pl) (thn (ho.run pins s σ H _ I h) fun v s1 ⟨x, H1, I1, rx, ex, q⟩ => ?_) ht
  subst ex
  obtain rfl : v = Value.type "int" := rx
  refine fb_get I1.kIn (find_fb _) ?_
  have eb : (s1.heap.push PySem.W.KFB.bound).get? s1.heap.objs.size = some PySem.W.KFB.bound := Heap.get?_push_size _ rfl
  have I2 := I1.laid (t' := s1.toks + 1) (a := s1.heap.objs.size) (o := fbHO s1.heap.objs.size) (h' := s1.heap.push PySem.W.KFB.bound) (fun b u q => Heap.get?_push_of_some _ q) (Nat.le_refl _) ⟨eb, ⟨_, eb⟩, fun h1 h2 f k => k _ f⟩
  show wpAny _ _ (callWith pos (.ref s1.heap.objs.size) [] (backTo pos (starEach (e :: es) X.env)) []) _ _ _
  refine callWith_fb (thn (ha.run pos pins _ σ _ _ I2 (q _ (I1.hok.fresh (Nat.le_refl _)))) fun us s2 ⟨vs, H2, I3, rv, hu, hr⟩ => ⟨fb_at I3 hu, ?_⟩) hst hpl
  obtain ⟨ks, h8, hl, ev, k⟩ := hr
  rw [ev] at rv
  obtain ⟨u1, u2, rfl, ru1, ru2⟩ := rv.two
  obtain ⟨t1, rfl⟩ := ru1
  obtain ⟨t2, rfl⟩ := ru2
  refine PySem.W.KFB.call_of (fb_at I3 hu) (fun z => TPY.tree_bigW (by rw [byteArr_size]; exact hl) z) ?_
  rw [bInts_of h8]
  exact ⟨.int _, H2, I3.tok _, ⟨_, rfl⟩, k⟩
end
end TP
namespace TPY
open PySem PySem.Builtin
theorem slot_reprB : Slot "bytes" "__repr__" "bytes.__repr__" :=
  .of (owner := "bytes") (n := "__repr__") (by rw [typeLookup_type, builtinLookup_eq_fast]; kernel_rfl) (by decide +kernel) (by decide +kernel) (by decide +kernel)
    (by first | exact .inl (by decide +kernel) | exact .inr (by decide +kernel)) (by rw [isSubtype_type]; kernel_rfl)
theorem entry_reprB : entryFor table "bytes.__repr__" = some Builtin.«bytes.__repr__» := entryFor_of_tree (by kernel_rfl)
theorem args_reprB (a : Value) : argsOk "bytes.__repr__" ⟨[a], []⟩ := by unfold argsOk; kernel_rfl
theorem gives_reprB (b : Array UInt8) (t : Tok) (h : 4 * b.size + 3 ≤ 16777216) : Gives (Builtin.«bytes.__repr__» ⟨[.bytes b t], []⟩) (.str (Bytes.literal b)) := by
  have e : (Bytes.tooLong (4 * b.size + 3 + 0) && Bytes.tooLong (Bytes.literalLength b false + 0)) = false := by
    rw [show Bytes.tooLong (4 * b.size + 3 + 0) = false from decide_eq_false (by rw [sizeLine_eq]; omega), Bool.false_and]
  have e2 : Bytes.literalAsked b = pure (Bytes.literal b) := by
    unfold Bytes.literalAsked
    rw [e]
    rfl
  have e3 : Builtin.«bytes.__repr__» ⟨[.bytes b t], []⟩ = (Bytes.literalAsked b >>= fun z => retStr z) := by first | rfl | kernel_rfl
  rw [e3, e2]
  exact .of_eq rfl
theorem fold_app {α β : Type} {f : α → Array β} (hf : ∀ c, (f c).size ≤ 4) : ∀ (l : List α) (a : Array β), ∃ r : Array β, l.foldl (fun acc c => acc ++ f c) a = a ++ r ∧ r.size ≤ 4 * l.length
  | [], a => ⟨#[], by simp, by simp⟩
  | c :: l, a => by
    obtain ⟨r, e, h⟩ := fold_app hf l (a ++ f c)
    refine ⟨f c ++ r, ?_, ?_⟩
    · rw [List.foldl_cons, e, Array.append_assoc]
    · have := hf c
      rw [Array.size_append, List.length_cons]
      omega
def hexB (n : Nat) : Nat := if n < 10 then 48 + n else 87 + n
def shownB (q c : Nat) : Array Nat :=
  if c == q || c == 92 then #[92, c]
  else if c == 9 then #[92, 116]
  else if c == 10 then #[92, 110]
  else if c == 13 then #[92, 114]
  else if c < 32 || c ≥ 127 then #[92, 120, hexB (c / 16), hexB (c % 16)]
  else #[c]
theorem shownB_size (q c : Nat) : (shownB q c).size ≤ 4 := by
  unfold shownB
  repeat' split
  all_goals simp
def quoteB (b : Array UInt8) : Nat := if b.contains 39 && !b.contains 34 then 34 else 39
theorem literal_eq (b : Array UInt8) : Bytes.literal b = ⟨(b.foldl (fun acc c => acc ++ shownB (quoteB b) c.toNat) #[98, quoteB b]).push (quoteB b)⟩ := rfl
theorem literal_of (b : Array UInt8) : ∃ (q : Nat) (r : Array Nat), (q = 39 ∨ q = 34) ∧ Bytes.literal b = ⟨#[98, q] ++ r⟩ ∧ r.size ≤ 4 * b.size + 1 := by
  have hq2 : quoteB b = 39 ∨ quoteB b = 34 := by
    unfold quoteB
    split
    · exact .inr rfl
    · exact .inl rfl
  obtain ⟨r, e, h⟩ := fold_app (f := fun c : UInt8 => shownB (quoteB b) c.toNat) (fun c => shownB_size _ _) b.toList #[98, quoteB b]
  refine ⟨quoteB b, r.push (quoteB b), hq2, ?_, ?_⟩
  · rw [literal_eq, ← Array.foldl_toList, e, Array.push_append]
  · rw [Array.size_push]
    have : b.toList.length = b.size := Array.length_toList
    omega
end TPY
namespace TP
open PySem PySem.Spec PyProof.Rows L2 LamX
abbrev litB (ks : List Int) : Str := Builtin.Bytes.literal (byteArr ks)
theorem lit_len (ks : List Int) : (litB ks).length ≤ 4 * ks.length + 3 := by
  obtain ⟨q, r, hq, e, h⟩ := TPY.literal_of (byteArr ks)
  unfold litB
  rw [e]
  show (#[98, q] ++ r).size ≤ _
  rw [Array.size_append]
  rw [byteArr_size] at h
  show 2 + r.size ≤ _
  omega
def rReprBy : List V → Hp → VK → Prop := fun xs H Q => ∃ ks : List Int, xs = [.byt (byteArr ks)] ∧ ks.length ≤ 100000 ∧ Q (.str (litB ks)) H
theorem call_reprBy {X : Cx} : CallR X (.builtin "repr") rReprBy := by
  intro pins s σ H xs us Q I r h
  obtain ⟨ks, rfl, hl, q⟩ := h
  obtain ⟨u, rfl, t, rfl⟩ := vals1 r
  have hz : 4 * (byteArr ks).size + 3 ≤ 16777216 := by rw [byteArr_size]; omega
  exact call_repr_gives (PySem.W.typeIs_bytes s _ _) TPY.slot_reprB TPY.entry_reprB (TPY.args_reprB _) (TPY.gives_reprB _ _ hz) ⟨.str _, H, I.tok _, ⟨_, rfl⟩, q⟩ rfl (by have := lit_len ks; show (litB ks).length ≤ sizeLine; rw [sizeLine_eq]; omega)
theorem call_listBy {X : Cx} (hc : X.calm = true) : CallR X (.type "list") (fun xs H Q => ∃ ks : List Int, xs = [.byt (byteArr ks)] ∧ B8 ks ∧ ks.length ≤ 100000 ∧ ∀ q, H q = none → Q (.ref q) (upd H q (.lst (ks.map V.int)))) := by
  intro pins s σ H xs us Q I r h
  obtain ⟨ks, rfl, h8, hl, q⟩ := h
  obtain ⟨u, rfl, ru⟩ := vals1 r
  refine rl_listB hc pins s σ H _ u Q I ru ⟨byteArr ks, rfl, by rw [byteArr_size, sizeLine_eq]; omega, fun p hp => ?_⟩
  rw [show bi (byteArr ks) = ks from bInts_of h8]
  exact q p hp
end TP
namespace TPY
open PySem PySem.W PySem.MeetsSeq
theorem noI_bytes_add : typeLookup (.type "bytes") (dunderI "add") = pure none := by rw [typeLookup_type, builtinLookup_eq_fast]; kernel_rfl
section
variable {prog : Program} {w : World} {A : Around} {E : Value → Shared → Prop} {s : Shared} {b c : Array UInt8} {t u : Tok} {Q : Value → Shared → Prop}
theorem iadd_bytes (hsz : b.size + c.size ≤ 16777216) (h : ∀ t' k, Q (.bytes (b ++ c) t') { s with toks := k }) : wpAny (model prog w) A (inplaceOp .Add (.bytes b t) (.bytes c u)) Q E s := by
  refine PySem.iconcat_gives (typeIs_bytes s b t) (typeIs_bytes s c u) noI_bytes_add KBy.noFill_bytes_add KBy.seq_bytes_add FB.slot_bytes_add FB.entry_bytes_add (FB.args_bytes_add_2 _ _) (KBy.gives_bytes_add (KBy.tooLong_not hsz)) ?_
  by_cases hb : b.isEmpty = true
  · rw [if_pos hb]
    have e : b = #[] := Array.isEmpty_iff.1 hb
    have h' := h u s.toks
    rw [e, Array.empty_append] at h'
    exact h'
  · rw [if_neg hb]
    by_cases hc : c.isEmpty = true
    · rw [if_pos hc]
      have e : c = #[] := Array.isEmpty_iff.1 hc
      have h' := h t s.toks
      rw [e, Array.append_empty] at h'
      exact h'
    · rw [if_neg hc]
      exact ⟨by rw [Array.size_append, sizeLine_eq]; exact hsz, h _ _⟩
theorem eqAt_byt (A : Around) (s : Shared) (b c : Array UInt8) (t u : Tok) : SeqAt.EqAt A s (.bytes b t) (.bytes c u) (b.toList == c.toList) := fun prog w E Q h => by
  unfold eqBool
  refine wpAny_holding ?_
  refine wpAny_ite_split (fun hab => ?_) (fun _ => ?_)
  · have e := eq_of_beq hab
    cases e
    rw [beq_self_eq_true] at h
    exact wpAny_bind (wpAny_rule (wpAny_pure h))
  · exact wpAny_bind (eq_bytes (wpAny_truthy_bool h))
end
end TPY
namespace TP
open PySem PySem.Spec PyProof.Rows L2 LamX
section
variable {X : Cx}
theorem pe_bytC {x : List UInt8} {k : Nat} {pos : Pos} : PE X (.Constant (.bytes x) k pos) (tC (.byt x.toArray)) := pe_byt
def rBytes (K : PySem.W.Frag) : List V → Hp → VK → Prop := fun xs H Q => ∃ (p : Addr) (ns : List Int), xs = [.ref p] ∧ SqL K H p (ns.map V.int) ∧ B8 ns ∧ Q (.byt (byteArr ns)) H
theorem k_bytes (K : PySem.W.Frag) (hc : X.calm = true) (h : X.K = K := by rfl) : CallR X (.type "bytes") (rBytes K) := by subst h; exact call_bytes_list hc
theorem w_bytes {K : PySem.W.Frag} {H : Hp} {Q : VK} {p : Addr} {ns : List Int} (h1 : SqL K H p (ns.map V.int)) (h8 : B8 ns) (q : Q (.byt (byteArr ns)) H) : rBytes K [.ref p] H Q := ⟨p, ns, rfl, h1, h8, q⟩
def rAddBy : R2 := fun x y H Q => ∃ as bs : List Int, x = .byt (byteArr as) ∧ y = .byt (byteArr bs) ∧ as.length + bs.length ≤ 100000 ∧ Q (.byt (byteArr (as ++ bs))) H
theorem byteArr_app (a b : List Int) : byteArr a ++ byteArr b = byteArr (a ++ b) := by
  unfold byteArr
  rw [List.map_append]
  simp
theorem o_addBy : OpR X (binaryOp .Add) rAddBy := by
  intro pins s σ H x y v u Q I rx ry h
  obtain ⟨as, bs, rfl, rfl, hz, q⟩ := h
  obtain ⟨t, rfl⟩ := rx
  obtain ⟨t', rfl⟩ := ry
  refine PySem.W.KBy.add_bytes (by rw [byteArr_size, byteArr_size]; omega) fun t' tk => ⟨.byt (byteArr (as ++ bs)), H, I.tok _, ⟨t', ?_⟩, q⟩
  rw [byteArr_app]
theorem ip_addBy : OpR X (inplaceOp .Add) rAddBy := by
  intro pins s σ H x y v u Q I rx ry h
  obtain ⟨as, bs, rfl, rfl, hz, q⟩ := h
  obtain ⟨t, rfl⟩ := rx
  obtain ⟨t', rfl⟩ := ry
  refine TPY.iadd_bytes (by rw [byteArr_size, byteArr_size]; omega) fun t' tk => ⟨.byt (byteArr (as ++ bs)), H, I.tok _, ⟨t', ?_⟩, q⟩
  rw [byteArr_app]
theorem w_addBy {as bs : List Int} {H : Hp} {Q : VK} (hz : as.length + bs.length ≤ 100000) (q : Q (.byt (byteArr (as ++ bs))) H) : rAddBy (.byt (byteArr as)) (.byt (byteArr bs)) H Q := ⟨as, bs, rfl, rfl, hz, q⟩
def rIxBy : R2 := fun x y H Q => ∃ (ks : List Int) (i : Nat) (k : Int), x = .byt (byteArr ks) ∧ y = .int (i : Nat) ∧ ks.length ≤ 100000 ∧ B8 ks ∧ ks[i]? = some k ∧ Q (.int k) H
theorem pe_ixBy {a b : Expr} {ta tb : TE} {pos : Pos} (ha : PE X a ta) (hb : PE X b tb) (hs : PlainIxT b) : PE X (.Subscript a b pos) (tOp rIxBy ta tb) := by
  refine ⟨fun pins s σ H Q I h => ?_⟩
  refine Subscript_ (binT ha hb I h fun v u s2 x y H2 I2 rx ry q => ?_)
  obtain ⟨ks, i, k, rfl, rfl, hz, h8, hk, q⟩ := q
  obtain ⟨t, rfl⟩ := rx
  obtain ⟨t', rfl⟩ := ry
  obtain ⟨hi, ei⟩ := List.getElem?_eq_some_iff.mp hk
  have hl : (byteArr ks).toList.length = ks.length := byteArr_size ks
  have e : (((byteArr ks).toList.getD i 0).toNat : Int) = k := by
    rw [bi_get]
    show (bi (byteArr ks)).getD i 0 = k
    rw [show bi (byteArr ks) = ks from bInts_of h8]
    simp [List.getD, hk]
  have q' : Q (.int (((byteArr ks).toList.getD ((i : Nat) : Int).toNat 0).toNat : Nat)) H2 := by
    rw [Int.toNat_natCast, e]
    exact q
  exact tail_any (PySem.W.typeIs_bytes s2 (byteArr ks) t) PySem.W.FB.slot_bytes_getitem.lookup (PySem.W.getItem_bytes (l := (byteArr ks).toList) (by omega) (by omega) (by omega) ⟨.int (((byteArr ks).toList.getD ((i : Nat) : Int).toNat 0).toNat : Nat), H2, I2.tok _, ⟨_, rfl⟩, q'⟩) (hs _ _)
def rSlBy : V → Option Int → Option Int → Hp → VK → Prop := fun x lo hi H Q => ∃ ks : List Int, x = .byt (byteArr ks) ∧ ks.length ≤ 100000 ∧ Q (.byt (byteArr (cutL ks lo hi))) H
theorem picked_cut (ks : List Int) (lo hi : Option Int) : PySem.W.KBy.picked (byteArr ks) lo hi = byteArr (cutL ks lo hi) := by
  have hc : ∀ (n : Nat) (i : Int), clipAt n i = HT.sIx n n (some i) := fun n i => by
    have h := clipAt_cast n i
    show clipAt n i = if i < 0 then (i + (n : Int)).toNat else min i.toNat n
    by_cases h0 : i < 0
    · rw [if_pos h0] at h ⊢
      omega
    · rw [if_neg h0] at h ⊢
      omega
  have h1 : lo.elim 0 (clipAt (byteArr ks).size) = HT.sIx ks.length 0 lo := by
    cases lo with
    | none => rfl
    | some i => show clipAt (byteArr ks).size i = _; rw [hc, byteArr_size]; rfl
  have h2 : hi.elim (byteArr ks).size (clipAt (byteArr ks).size) = HT.sIx ks.length ks.length hi := by
    cases hi with
    | none => exact byteArr_size ks
    | some i => show clipAt (byteArr ks).size i = _; rw [hc, byteArr_size]
  rw [PySem.W.KBc.picked_eq, h1, h2]
  unfold cutL byteArr
  show ((ks.map _).drop _ |>.take _).toArray = _
  rw [← List.map_drop, ← List.map_take]
theorem sl_by : SlR X rSlBy := by
  intro pins s σ H x v vl vu lo hi sl Q I rx hs pl pu q
  obtain ⟨ks, rfl, hz, q⟩ := q
  refine sl_byt pins s σ H _ v vl vu lo hi sl Q I rx hs pl pu ⟨byteArr ks, rfl, by rw [byteArr_size]; omega, ?_⟩
  rw [picked_cut]
  exact q
def rInBy (K : PySem.W.Frag) : R2 := fun x y H Q => ∃ (p : Addr) (ks : List Int) (zs : List (List Int)), x = .byt (byteArr ks) ∧ y = .ref p ∧ SqT K H p (zs.map fun z => V.byt (byteArr z)) ∧ B8 ks ∧ (∀ z ∈ zs, B8 z) ∧ Q (.bl (decide (ks ∈ zs))) H
theorem toList_beq {a b : List Int} (ha : B8 a) (hb : B8 b) : ((byteArr a).toList == (byteArr b).toList) = decide (a = b) := by
  by_cases h : a = b
  · subst h
    rw [decide_eq_true rfl, beq_self_eq_true]
  · rw [decide_eq_false h]
    refine beq_eq_false_iff_ne.mpr fun e => h ?_
    have e2 : byteArr a = byteArr b := Array.toList_inj.mp e
    rw [← bInts_of ha, e2, bInts_of hb]
theorem any_by {ks : List Int} (h8 : B8 ks) : ∀ {zs : List (List Int)} {us : List Value}, (∀ z ∈ zs, B8 z) → Vals (zs.map fun z => V.byt (byteArr z)) us →
    us.any (fun u => match u with | .bytes c _ => c.toList == (byteArr ks).toList | _ => false) = decide (ks ∈ zs)
  | [], us, _, r => by
    cases r
    rfl
  | z :: zs, us, hz, r => by
    cases r with
    | cons a r =>
      obtain ⟨t, rfl⟩ := a
      rw [List.any_cons, any_by h8 (fun y hy => hz y (List.mem_cons_of_mem _ hy)) r]
      show (((byteArr z).toList == (byteArr ks).toList) || _) = _
      rw [toList_beq (hz z List.mem_cons_self) h8]
      by_cases e : z = ks
      · rw [decide_eq_true e, decide_eq_true (show ks ∈ z :: zs by rw [e]; exact List.mem_cons_self)]; rfl
      · rw [decide_eq_false e, Bool.false_or]
        exact decide_eq_decide.mpr ⟨List.mem_cons_of_mem _, fun h => (List.mem_cons.mp h).elim (fun h => absurd h.symm e) id⟩
theorem at_by {A : Around} {s : Shared} {ks : List Int} {t : Tok} : ∀ {zs : List (List Int)} {us : List Value}, Vals (zs.map fun z => V.byt (byteArr z)) us →
    ∀ u ∈ us, SeqAt.EqAt A s u (.bytes (byteArr ks) t) (match u with | .bytes c _ => c.toList == (byteArr ks).toList | _ => false)
  | [], us, r => by
    cases r
    exact fun u hu => absurd hu List.not_mem_nil
  | z :: zs, us, r => by
    cases r with
    | cons a r =>
      obtain ⟨t, rfl⟩ := a
      intro u hu
      rcases List.mem_cons.mp hu with rfl | hu
      · exact TPY.eqAt_byt _ _ _ _ _ _
      · exact at_by r u hu
theorem k_inBy (K : PySem.W.Frag) (hK : X.K = K := by rfl) : OpR X (compareOp .In) (rInBy K) := by
  subst hK
  intro pins s σ H x y v u Q I rx ry h
  obtain ⟨p, ks, zs, rfl, rfl, hq, h8, hz, q⟩ := h
  obtain ⟨t, rfl⟩ := rx
  cases ry
  obtain ⟨its, r, pl, hzz⟩ := I.tuple hq
  refine SeqAt.in_tupleAt (fun u => match u with | .bytes c _ => c.toList == (byteArr ks).toList | _ => false) pl (fun w hw => at_by r w (by simpa using hw)) ⟨.bl _, H, I, rfl, ?_⟩
  rw [show its.toArray.any (fun u => match u with | .bytes c _ => c.toList == (byteArr ks).toList | _ => false) = its.any (fun u => match u with | .bytes c _ => c.toList == (byteArr ks).toList | _ => false) by simp, any_by h8 hz r]
  exact q
end
end TP
namespace TP
open PySem PySem.Spec PyProof.Rows L2 LamX
open PySem.W.KTBy (little)
def blen (n : Int) : Nat := (Builtin.Int.intBits n + 7) / 8
def bigE (n : Int) : List Int := (little (blen n) n).reverse
theorem w_lenBy {K : PySem.W.Frag} {ks : List Int} {H : Hp} {Q : VK} (hz : ks.length ≤ 100000) (h : Q (.int (ks.length : Nat)) H) : rLenV K [.byt (byteArr ks)] H Q := ⟨_, _, rfl, ⟨by rw [byteArr_size, sizeLine_eq]; omega, rfl⟩, by rw [byteArr_size]; exact h⟩
theorem w_bits {to : TE} {σ : L2.St} {H : Hp} {Q : VK} (h : to σ H fun x H1 => ∃ i, x = .int i ∧ Q (.int (Builtin.Int.intBits i : Nat)) H1) : tBits to σ H Q := h
theorem p256 (k : Nat) : (256 : Int) ^ k = ((256 ^ k : Nat) : Int) := by rw [Int.natCast_pow]; rfl
theorem blen_le {n : Int} {k : Nat} (h0 : 0 ≤ n) : n < (256 : Int) ^ k ↔ blen n ≤ k := by
  have e : (Builtin.Int.intBits n ≤ 8 * k) ↔ n.natAbs < 2 ^ (8 * k) := intBits_le_iff
  have e2 : (2 : Nat) ^ (8 * k) = 256 ^ k := by rw [Nat.pow_mul]
  rw [e2] at e
  rw [p256]
  unfold blen
  constructor
  · intro h
    have := e.mpr (by omega)
    omega
  · intro h
    have := e.mp (by omega)
    omega
theorem bigE_B8 (n : Int) : B8 (bigE n) := (little_B8 _ _).rev
theorem bigE_len (n : Int) : (bigE n).length = blen n := by unfold bigE; rw [List.length_reverse, PySem.W.KTBy.little_length]
end TP
namespace TP
open PySem PySem.Spec PyProof.Rows L2 LamX
def blockR : List Int → Option (List Int × List Int)
  | [] => none
  | k :: t => if k.toNat ≤ t.length then some (t.take k.toNat, t.drop k.toNat) else none
abbrev valB (ks : List Int) : Int := PySem.W.KFB.value ks
def letB (k : Int) : Bool := decide (97 ≤ k) && decide (k ≤ 122)
def txtB (ks : List Int) : Str := ⟨(ks.map Int.toNat).toArray⟩
def pairR (r : List Int) : Option ((Str × Int) × List Int) :=
  match blockR r with
  | none => none
  | some (a, r1) => match blockR r1 with
    | none => none
    | some (b, r2) => if b = [] ∨ b.head? = some 0 ∨ a.all letB = false then none else some ((txtB a, valB b), r2)
def rowsR : Nat → List Int → Option (Bag × List Int)
  | 0, r => some ([], r)
  | n + 1, r => match pairR r with
    | none => none
    | some (p, r1) => match rowsR n r1 with
      | none => none
      | some (ps, r2) => some (p :: ps, r2)
def unpackK : List Int → Option (Int × Bag)
  | c :: n :: r => if 1 ≤ c ∧ c ≤ 8 then match rowsR n.toNat r with
    | some (ps, []) => if verOk (badF c) (bagD ps) = true then some (c, ps) else none
    | _ => none else none
  | _ => none
def rowP (p : Str × Int) : List Int := [(p.1.length : Int)] ++ codesT p.1 ++ [(blen p.2 : Int)] ++ bigE p.2
def packK (c : Int) (ps : Bag) : List Int := [c, (ps.length : Nat)] ++ ps.flatMap rowP
theorem value_app (a : List Int) (k : Int) : valB (a ++ [k]) = valB a * 256 + k := by
  show List.foldl _ 0 (a ++ [k]) = _
  rw [List.foldl_append]
  rfl
end TP
namespace TP
open PySem PySem.Spec PyProof.Rows L2 LamX
theorem codes_len (x : Str) : (codesT x).length = x.length := by
  show (x.cps.toList.map _).length = x.cps.size
  rw [List.length_map, Array.length_toList]
theorem name_let {x : Str} (h : isName x = true) : ∀ c ∈ x.cps.toList, 97 ≤ c ∧ c ≤ 122 := fun c hc => by
  unfold isName at h
  simp only [Bool.and_eq_true, List.all_eq_true] at h
  have := h.2.2 c hc
  unfold isLet at this
  simpa using this
theorem name_asc {x : Str} (h : isName x = true) : PySem.W.KSb.Asc x := fun c hc => by
  have := name_let h c hc
  omega
end TP
namespace TP
open PySem PySem.Spec PyProof.Rows L2 LamX
theorem cutL_ab {α : Type} {xs : List α} {a b : Nat} : cutL xs (some (a : Int)) (some (b : Int)) = (xs.drop a).take (b - a) := by
  unfold cutL
  rw [HT.sIx_nat, HT.sIx_nat]
  by_cases ha : a ≤ xs.length
  · rw [Nat.min_eq_left ha]
    by_cases hb : b ≤ xs.length
    · rw [Nat.min_eq_left hb]
    · rw [Nat.min_eq_right (show xs.length ≤ b by omega), List.take_of_length_le (by rw [List.length_drop]; omega), List.take_of_length_le (by rw [List.length_drop]; omega)]
  · rw [Nat.min_eq_right (show xs.length ≤ a by omega), List.drop_of_length_le (show xs.length ≤ xs.length from Nat.le_refl _), List.drop_of_length_le (show xs.length ≤ a by omega)]
    simp
theorem w_slBy {ks : List Int} {lo hi : Option Int} {H : Hp} {Q : VK} (hl : ks.length ≤ 100000) (q : Q (.byt (byteArr (cutL ks lo hi))) H) : rSlBy (.byt (byteArr ks)) lo hi H Q := ⟨ks, rfl, hl, q⟩
theorem w_ixBy {ks : List Int} {i : Nat} {H : Hp} {Q : VK} (hl : ks.length ≤ 100000) (h8 : B8 ks) (hi : i < ks.length) (q : Q (.int ks[i]) H) : rIxBy (.byt (byteArr ks)) (.int (i : Nat)) H Q := ⟨ks, i, ks[i], rfl, rfl, hl, h8, List.getElem?_eq_getElem hi, q⟩
end TP
namespace TP
open PySem PySem.Spec PyProof.Rows L2 LamX
theorem w_tyS {K : PySem.W.Frag} {z : Str} {H : Hp} {C : Prop} (h : C) : tyV K "str" (.str z) H ∧ C := ⟨by first | exact rfl | exact trivial | simp [tyV], h⟩
theorem w_tyI {K : PySem.W.Frag} {z : Int} {H : Hp} {C : Prop} (h : C) : tyV K "int" (.int z) H ∧ C := ⟨by first | exact rfl | exact trivial | simp [tyV], h⟩
end TP
namespace TP
open PySem PySem.Spec PyProof.Rows L2 LamX
theorem rowP_len (p : Str × Int) : (rowP p).length = p.1.length + blen p.2 + 2 := by
  unfold rowP
  rw [List.length_append, List.length_append, List.length_append, codes_len, bigE_len]
  show 1 + _ + 1 + _ = _
  omega
theorem rows_len : ∀ {ps : Bag}, (∀ p ∈ ps, p.1.length ≤ 8 ∧ blen p.2 ≤ 200) → (ps.flatMap rowP).length ≤ 210 * ps.length
  | [], _ => Nat.le_refl _
  | p :: ps, h => by
    rw [List.flatMap_cons, List.length_append, List.length_cons, rowP_len]
    have h1 := h p List.mem_cons_self
    have h2 := rows_len fun q hq => h q (List.mem_cons_of_mem _ hq)
    omega
end TP
namespace TP
open PySem PySem.Spec PyProof.Rows L2 LamX
theorem walk_by {ks : List Int} (h8 : B8 ks) : Walk (Itb (byteArr ks)) ks.length (fun _ => True) (fun i H v H' => H' = H ∧ ∃ k, ks[i]? = some k ∧ v = .int k) where
  goes := fun i H hi _ => by
    show i < (byteArr ks).size
    rw [byteArr_size]; exact hi
  stops := fun H _ => by
    show (byteArr ks).size ≤ ks.length
    rw [byteArr_size]; exact Nat.le_refl _
  yields := fun i H v H' hi _ hy => by
    obtain ⟨rfl, c, hc, rfl⟩ := hy
    refine ⟨rfl, _, ?_, rfl⟩
    have e := bInts_of h8
    rw [← e]
    show ((byteArr ks).toList.map fun c : UInt8 => ((c.toNat : Nat) : Int))[i]? = _
    rw [List.getElem?_map, Array.getElem?_toList, hc]
    rfl
theorem w_iByt {te : TE} {σ : L2.St} {H : Hp} {R : It → Hp → Prop} (h : te σ H fun v H1 => ∃ x, v = .byt x ∧ R (Itb x) H1) : iByt te σ H R := h
theorem blockR_ok {r a r1 : List Int} (h : blockR r = some (a, r1)) (h8 : B8 r) : a.length ≤ r.length ∧ r1.length ≤ r.length ∧ B8 a ∧ B8 r1 ∧ a.length ≤ 255 := by
  cases r with
  | nil => cases h
  | cons k t =>
    have h : (if k.toNat ≤ t.length then some (t.take k.toNat, t.drop k.toNat) else none) = some (a, r1) := h
    by_cases z : k.toNat ≤ t.length
    · rw [if_pos z] at h
      cases h
      have h2 : B8 t := fun n hn => h8 n (List.mem_cons_of_mem _ hn)
      have h3 := h8 k List.mem_cons_self
      refine ⟨?_, ?_, h2.take _, fun n hn => h2 n (List.mem_of_mem_drop hn), ?_⟩
      · rw [List.length_take, List.length_cons]; omega
      · rw [List.length_drop, List.length_cons]; omega
      · rw [List.length_take]; omega
    · rw [if_neg z] at h
      cases h
theorem head_in {b : List Int} : decide (b.take 1 ∈ ([[], [0]] : List (List Int))) = decide (b = [] ∨ b.head? = some 0) := by
  refine decide_eq_decide.mpr ?_
  cases b with
  | nil => simp
  | cons x t => simp
end TP
namespace TP
open PySem PySem.Spec PyProof.Rows L2 LamX
def chrB (k : Int) : Str := ⟨#[k.toNat]⟩
theorem join_chr (a : List Int) : Txt.join "" (a.map chrB) = txtB a := by
  have h : (Txt.join (Str.ofString "") (a.map chrB)).cps.toList = (txtB a).cps.toList := by
    rw [txt_join_eq, join0_list, List.map_map]
    show (a.map fun k => [k.toNat]).flatten = (a.map Int.toNat)
    induction a with
    | nil => rfl
    | cons k t ih => simp [ih]
  have h2 := Array.toList_inj.mp h
  show Txt.join (Str.ofString "") (a.map chrB) = txtB a
  generalize Txt.join (Str.ofString "") (a.map chrB) = x at *
  cases x
  cases hx : txtB a with
  | mk y => rw [hx] at h2; exact congrArg Str.mk h2
end TP
namespace TP
open PySem PySem.Spec PyProof.Rows L2 LamX
theorem w_fromW {t : TA} {σ : L2.St} {H : Hp} {Q : VK} (h : ∀ u, H u = none → t σ (upd H u (fbHO u)) fun vs H2 => H2 u = some (fbHO u) ∧ rFromW vs H2 Q) : tFromW (tC (.ty "int")) t σ H Q := ⟨rfl, h⟩
theorem letB_eq {k : Int} : letB k = true ↔ 97 ≤ k ∧ k ≤ 122 := by unfold letB; simp
theorem chrs_len (a : List Int) : ((a.map chrB).map (·.length)).sum = a.length := by
  induction a with
  | nil => rfl
  | cons k t ih => rw [List.map_cons, List.map_cons, List.sum_cons, ih, List.length_cons]; show 1 + _ = _; omega
end TP
namespace TP
open PySem PySem.Spec PyProof.Rows L2 LamX
theorem w_ixBk {ks : List Int} {i : Nat} {k : Int} {H : Hp} {Q : VK} (hl : ks.length ≤ 100000) (h8 : B8 ks) (hk : ks[i]? = some k) (q : Q (.int k) H) : rIxBy (.byt (byteArr ks)) (.int (i : Nat)) H Q := ⟨ks, i, k, rfl, rfl, hl, h8, hk, q⟩
theorem rowsR_none {m : Nat} {r : List Int} (h : pairR r = none) : rowsR (m + 1) r = none := by
  show (match pairR r with
    | none => none
    | some (p, r1) => match rowsR m r1 with
      | none => none
      | some (ps, r2) => some (p :: ps, r2)) = none
  rw [h]
theorem rowsR_some {m : Nat} {r r1 : List Int} {q : Str × Int} (h : pairR r = some (q, r1)) : rowsR (m + 1) r = match rowsR m r1 with
    | none => none
    | some (ps, r2) => some (q :: ps, r2) := by
  show (match pairR r with
    | none => none
    | some (p, r1) => match rowsR m r1 with
      | none => none
      | some (ps, r2) => some (p :: ps, r2)) = _
  rw [h]
def restR (qs : Bag) (m : Nat) (r : List Int) : Option (Bag × List Int) := match rowsR m r with
  | none => none
  | some (ps, r2) => some (qs ++ ps, r2)
theorem restR_none {qs : Bag} {m : Nat} {r : List Int} (h : pairR r = none) : restR qs (m + 1) r = none := by
  unfold restR
  rw [rowsR_none h]
theorem restR_some {qs : Bag} {m : Nat} {r r1 : List Int} {q : Str × Int} (h : pairR r = some (q, r1)) : restR qs (m + 1) r = restR (qs ++ [q]) m r1 := by
  unfold restR
  rw [rowsR_some h]
  cases rowsR m r1 with
  | none => rfl
  | some z =>
    obtain ⟨ps, r2⟩ := z
    show some (qs ++ q :: ps, r2) = some (qs ++ [q] ++ ps, r2)
    rw [List.append_assoc]
    rfl
theorem rest_nil {m : Nat} {r : List Int} : restR [] m r = rowsR m r := by
  unfold restR
  cases rowsR m r with
  | none => rfl
  | some z => rfl
theorem rest_zero {qs : Bag} {r : List Int} : restR qs 0 r = some (qs, r) := by
  show some (qs ++ [], r) = _
  rw [List.append_nil]
theorem unpack_rows {c n : Int} {r : List Int} : unpackK (c :: n :: r) = if 1 ≤ c ∧ c ≤ 8 then match rowsR n.toNat r with
    | some (ps, []) => if verOk (badF c) (bagD ps) = true then some (c, ps) else none
    | _ => none else none := rfl
theorem pairR_len {r r1 : List Int} {q : Str × Int} (h : pairR r = some (q, r1)) (h8 : B8 r) : q.1.length ≤ 255 := by
  unfold pairR at h
  cases ha : blockR r with
  | none => rw [ha] at h; cases h
  | some z =>
    obtain ⟨a, ra⟩ := z
    rw [ha] at h
    dsimp only at h
    cases hb : blockR ra with
    | none => rw [hb] at h; cases h
    | some y =>
      obtain ⟨b, rb⟩ := y
      rw [hb] at h
      dsimp only at h
      split at h
      · cases h
      · cases h
        have := (blockR_ok ha h8).2.2.2.2
        show ((a.map Int.toNat).toArray).size ≤ 255
        rw [List.size_toArray, List.length_map]
        exact this
end TP
namespace TP
open PySem PySem.Spec PyProof.Rows L2 LamX
theorem w_catI {as bs : List Int} {l m : Addr} {H : Hp} {Q : VK} (h1 : H l = some (.lst (as.map V.int))) (h2 : H m = some (.lst (bs.map V.int))) (hz : as.length + bs.length ≤ 100000) (k : ∀ p H', Same H H' → H' p = some (.lst ((as ++ bs).map V.int)) → Q (.ref p) H') : rCat (.ref l) (.ref m) H Q :=
  ⟨l, m, _, _, rfl, rfl, h1, h2, by rw [List.length_map, List.length_map, sizeLine_eq]; omega, fun p hp => k p _ (same_new hp) (by rw [upd_same, List.map_append])⟩
theorem pack_len {c : Int} {ps : Bag} (hv : SumV c ps) (hb : ∀ p ∈ ps, p.2 < 256 ^ 200) (m : Nat) : ((ps.take m).flatMap rowP).length ≤ 1680 := by
  have hr : ((ps.take m).flatMap rowP).length ≤ 210 * (ps.take m).length := rows_len fun p hp => by
    have hp := List.mem_of_mem_take hp
    have h1 := isName_len (hv.ok.nam p hp)
    have h2 := hv.ok.pos p hp
    exact ⟨by omega, (blen_le (k := 200) (show 0 ≤ p.2 by omega)).mp (hb p hp)⟩
  rw [List.length_take] at hr
  have h1 := hv.len
  have h2 := hv.c8
  omega
end TP
namespace TP
open PySem PySem.Spec PyProof.Rows L2 LamX
theorem pack_B8 {c : Int} {ps : Bag} (hv : SumV c ps) (hb : ∀ p ∈ ps, p.2 < 256 ^ 200) : B8 (packK c ps) := fun n hn => by
  have c1 := hv.c1
  have c8 := hv.c8
  have hl := hv.len
  rcases List.mem_append.mp hn with hn | hn
  · rcases List.mem_cons.mp hn with rfl | hn
    · omega
    · rw [List.mem_singleton.mp hn]; omega
  · obtain ⟨p, hp, hn⟩ := List.mem_flatMap.mp hn
    have h1 := isName_len (hv.ok.nam p hp)
    have h2 := hv.ok.pos p hp
    have h3 := (blen_le (k := 200) (show 0 ≤ p.2 by omega)).mp (hb p hp)
    rcases List.mem_append.mp hn with hn | hn
    · rcases List.mem_append.mp hn with hn | hn
      · rcases List.mem_append.mp hn with hn | hn
        · rw [List.mem_singleton.mp hn]; omega
        · obtain ⟨ch, hc, rfl⟩ := List.mem_map.mp hn
          have := name_let (hv.ok.nam p hp) ch hc
          show 0 ≤ (ch : Int) ∧ (ch : Int) < 256
          omega
      · rw [List.mem_singleton.mp hn]; omega
    · exact bigE_B8 _ n hn
theorem packK_len {c : Int} {ps : Bag} (hv : SumV c ps) (hb : ∀ p ∈ ps, p.2 < 256 ^ 200) : (packK c ps).length ≤ 1700 := by
  have h := pack_len hv hb ps.length
  rw [List.take_length] at h
  unfold packK
  rw [List.length_append]
  show 2 + _ ≤ _
  omega
theorem big100 : (10 : Int) ^ 100 < 256 ^ 200 := by decide +kernel
end TP
namespace TP
open PySem PySem.Spec PyProof.Rows L2 LamX
theorem sumO_upd {K : PySem.W.Frag} {H : Hp} {R : Addr} {xs ys : List V} {v : V} {c : Int} {ps : Bag} (hR : H R = some (.lst xs)) (h : SumO K H v c ps) : SumO K (upd H R (.lst ys)) v c ps := by
  obtain ⟨a, dx, b, rfl, ha, hd⟩ := h
  refine ⟨a, dx, b, rfl, ?_, dp_flat (SameT.lst hR) hd (flat_bag ps)⟩
  rw [upd_ne (fun z => by rw [z, hR] at ha; cases ha)]
  exact ha
end TP
namespace TP
open PySem PySem.Spec PyProof.Rows L2
mutual
inductive Sw (K : PySem.W.Frag) (RS : Hp → V → Str → Prop) (H : Hp) : V → Str → Nat → Prop
  | non : Sw K RS H .non "None" 0
  | bl (b : Bool) : Sw K RS H (.bl b) (if b = true then "True" else "False") 0
  | int (i : Int) : i.natAbs.log2 < 1920 → Sw K RS H (.int i) (toString i) 0
  | str (x : Str) : (reprText x).length ≤ sizeLine → Sw K RS H (.str x) (reprText x) 0
  | own {v : V} {t : Str} : RS H v t → Sw K RS H v t 0
  | dct {a : Addr} : H a = some (.dK []) → Sw K RS H (.ref a) (dictText []) 0
  | lst {a : Addr} {xs : List V} {ts : List Str} {d : Nat} : H a = some (.lst xs) → SwAll K RS H xs ts d → Sw K RS H (.ref a) (listText ts) (d + 1)
  | tup {a : Addr} {xs : List V} {ts : List Str} {d : Nat} : SqT K H a xs → SwAll K RS H xs ts d → Sw K RS H (.ref a) (tupleText ts) (d + 1)
inductive SwAll (K : PySem.W.Frag) (RS : Hp → V → Str → Prop) (H : Hp) : List V → List Str → Nat → Prop
  | nil : SwAll K RS H [] [] 0
  | cons {v : V} {t : Str} {xs : List V} {ts : List Str} {d e : Nat} : Sw K RS H v t d → SwAll K RS H xs ts e → SwAll K RS H (v :: xs) (t :: ts) (max d e)
end
def NSeq (RS : Hp → V → Str → Prop) (H : Hp) : Prop := ∀ a t, RS H (.ref a) t → ∃ C dx fl, H a = some (.ins C dx fl)
def Uq (K : PySem.W.Frag) (H : Hp) : Prop := ∀ a xs, SqT K H a xs → (∀ ys, SqT K H a ys → xs = ys) ∧ (∀ ys, H a ≠ some (.lst ys)) ∧ H a ≠ some (.dK []) ∧ ∀ C dx fl, H a ≠ some (.ins C dx fl)
theorem Uq.back {K : PySem.W.Frag} {H0 H : Hp} (s : Same H0 H) (h : Uq K H) : Uq K H0 := fun a xs e => by
  obtain ⟨h1, h2, h3, h4⟩ := h a xs (sqt_same s e)
  exact ⟨fun ys e' => h1 ys (sqt_same s e'), fun ys e' => h2 ys (s _ _ e'), fun e' => h3 (s _ _ e'), fun C dx fl e' => h4 C dx fl (s _ _ e')⟩
theorem vals_uq : ∀ {xs ys : List V} {us : List Value}, Vals xs us → Vals ys us → xs = ys
  | _, _, _, .nil, .nil => rfl
  | _, _, _, .cons a r, .cons b q => by rw [RelV.inj a b, vals_uq r q]
theorem uq_of {X : Cx} {pins : List (Addr × Obj)} {σ : L2.St} {H : Hp} {s : Shared} (I : Inv X pins σ H s) : Uq X.K H := fun a xs e => by
  obtain ⟨its, rv, ⟨o, ho, hc, n, hd⟩, _⟩ := I.tuple e
  refine ⟨fun ys e' => ?_, fun ys e' => ?_, fun e' => ?_, fun C dx fl e' => ?_⟩
  · obtain ⟨its', rv', ⟨o', ho', hc', n', hd'⟩, _⟩ := I.tuple e'
    rw [ho] at ho'
    cases ho'
    rw [hd] at hd'
    have ei : its.toArray = its'.toArray := by injection hd'
    have ei2 : its = its' := by simpa using ei
    subst ei2
    exact vals_uq rv rv'
  · obtain ⟨its', rv', ⟨o', n', ho', hc', _, hd'⟩, _⟩ := I.list (SqL.of e')
    rw [ho] at ho'
    cases ho'
    rw [hc] at hc'
    exact absurd (Value.type.inj hc') (by decide)
  · obtain ⟨_, _, vs, _, o', es, ep, ho', hx, _, _, _, _⟩ := dk_of I.hok e'
    rw [ho] at ho'
    cases ho'
    have hc' := hx.1
    rw [hc] at hc'
    exact absurd (Value.type.inj hc') (by decide)
  · obtain ⟨mA, J, _⟩ := ins_get I.hok e'
    have hj := J.obj
    rw [ho] at hj
    have hc' := congrArg Obj.cls (Option.some.inj hj)
    rw [hc] at hc'
    cases hc'
section
variable {K : PySem.W.Frag} {RS : Hp → V → Str → Prop} {H H' : Hp}
mutual
theorem sw_same (s : Same H H') (hR : ∀ v t, RS H v t → RS H' v t) : ∀ {v : V} {t : Str} {d : Nat}, Sw K RS H v t d → Sw K RS H' v t d
  | _, _, _, .non => .non
  | _, _, _, .bl b => .bl b
  | _, _, _, .int i h => .int i h
  | _, _, _, .str x h => .str x h
  | _, _, _, .own h => .own (hR _ _ h)
  | _, _, _, .dct h => .dct (s _ _ h)
  | _, _, _, .lst h r => .lst (s _ _ h) (sws_same s hR r)
  | _, _, _, .tup h r => .tup (sqt_same s h) (sws_same s hR r)
theorem sws_same (s : Same H H') (hR : ∀ v t, RS H v t → RS H' v t) : ∀ {xs : List V} {ts : List Str} {d : Nat}, SwAll K RS H xs ts d → SwAll K RS H' xs ts d
  | _, _, _, .nil => .nil
  | _, _, _, .cons h r => .cons (sw_same s hR h) (sws_same s hR r)
end
theorem sws_len : ∀ {xs : List V} {ts : List Str} {d : Nat}, SwAll K RS H xs ts d → ts.length = xs.length
  | _, _, _, .nil => rfl
  | _, _, _, .cons _ r => by simp [sws_len r]
variable (hx : NSeq RS H) (hu : Uq K H)
include hx hu
mutual
theorem sw_deep : ∀ {v : V} {t t' : Str} {d d' : Nat}, Sw K RS H v t d → Sw K RS H v t' d' → d = d'
  | _, _, _, _, _, .non, h => by cases h <;> rfl
  | _, _, _, _, _, .bl b, h => by cases h <;> rfl
  | _, _, _, _, _, .int i _, h => by cases h <;> rfl
  | _, _, _, _, _, .str x _, h => by cases h <;> rfl
  | _, _, _, _, _, .own h1, h => by
    cases h with
    | lst h2 _ =>
      obtain ⟨C, dx, fl, e⟩ := hx _ _ h1
      rw [e] at h2; cases h2
    | tup h2 _ =>
      obtain ⟨C, dx, fl, e⟩ := hx _ _ h1
      exact absurd e ((hu _ _ h2).2.2.2 _ _ _)
    | _ => rfl
  | _, _, _, _, _, .dct h1, h => by
    cases h with
    | lst h2 _ => rw [h1] at h2; cases h2
    | tup h2 _ => exact absurd h1 (hu _ _ h2).2.2.1
    | _ => rfl
  | _, _, _, _, _, .lst h1 r1, h => by
    cases h with
    | own h2 =>
      obtain ⟨C, dx, fl, e⟩ := hx _ _ h2
      rw [e] at h1; cases h1
    | dct h2 => rw [h1] at h2; cases h2
    | tup h2 _ => exact absurd h1 ((hu _ _ h2).2.1 _)
    | lst h2 r2 =>
      rw [h1] at h2
      cases h2
      exact congrArg (· + 1) (sws_deep r1 r2)
  | _, _, _, _, _, .tup h1 r1, h => by
    cases h with
    | own h2 =>
      obtain ⟨C, dx, fl, e⟩ := hx _ _ h2
      exact absurd e ((hu _ _ h1).2.2.2 _ _ _)
    | dct h2 => exact absurd h2 (hu _ _ h1).2.2.1
    | lst h2 _ => exact absurd h2 ((hu _ _ h1).2.1 _)
    | tup h2 r2 =>
      cases (hu _ _ h1).1 _ h2
      exact congrArg (· + 1) (sws_deep r1 r2)
theorem sws_deep : ∀ {xs : List V} {ts ts' : List Str} {d d' : Nat}, SwAll K RS H xs ts d → SwAll K RS H xs ts' d' → d = d'
  | _, _, _, _, _, .nil, h => by cases h; rfl
  | _, _, _, _, _, .cons h1 r1, h => by
    cases h with
    | cons h2 r2 => rw [sw_deep h1 h2, sws_deep r1 r2]
end
end
end TP
namespace TP
open PySem PySem.Spec PyProof.Rows L2 LamX
open Builtin Builtin.List
def ClrW (K : PySem.W.Frag) (RS : Hp → V → Str → Prop) (H0 : Hp) (g : List Code) (d : Nat) : Prop := ∀ a t e, e ≤ d → Sw K RS H0 (.ref a) t e → Clear g a
def Elw (X : Cx) (RS : Hp → V → Str → Prop) (H0 : Hp) (k : Nat) (v : V) (t : Str) (d : Nat) : Prop := ∀ (pins : List (Addr × Obj)) (σ : L2.St) (H : Hp) (s : Shared) (u : Value) (base : Nat) (A : Around) (g : List Code) (E : Value → Shared → Prop) (Q : Str → Shared → Prop),
  Same H0 H → Inv X pins σ H s → RelV v u → base + t.length ≤ sizeLine → A.guards = some g → ClrW X.K RS H0 g d → A.frames = X.A.frames → Room (k + d) A → (∀ H' s', Same H H' → Inv X pins σ H' s' → Q t s') → wpAny (model X.prog X.w) A (pyReprUnder base u) Q E s
theorem ClrW.le {K : PySem.W.Frag} {RS : Hp → V → Str → Prop} {H0 : Hp} {g : List Code} {d e : Nat} (h : ClrW K RS H0 g d) (he : e ≤ d) : ClrW K RS H0 g e := fun a t e' h1 h2 => h a t e' (Nat.le_trans h1 he) h2
section
variable {X : Cx} {RS : Hp → V → Str → Prop} {H0 : Hp} {k : Nat}
theorem loopW {A : Around} {g : List Code} {a P : Addr} {xs : List V} {ts : List Str} {d base : Nat} {pins : List (Addr × Obj)} {σ : L2.St} {R : Result → Shared → Prop} {Hs : Hp} (h0 : H0 a = some (.lst xs)) (hs0 : Same H0 Hs) (hne : a ≠ P) (hg : A.guards = some g) (hcl : ∀ rest kw, ClrW X.K RS H0 (.builtin "list.__repr__.loop" ⟨.ref a :: rest, kw⟩ :: g) d)
    (hf : A.frames = X.A.frames) (hr : Room (k + d + 1) A) (hlen : ts.length = xs.length) (hT : ∀ (i : Nat) (v : V), xs[i]? = some v → ∃ t e, ts[i]? = some t ∧ e ≤ d ∧ Elw X RS H0 k v t e) (hsz : base + (listText ts).length ≤ sizeLine)
    (hR : ∀ H' s' u, Same Hs H' → Inv X pins σ H' s' → R (.ok (.ret (.str (listText ts) u))) s') :
    ∀ (m i : Nat) (H : Hp) (s : Shared) (acc : Array Value) (c : Nat) (done : List (Str × Tok)), xs.length - i = m → i ≤ xs.length → Same Hs H → Inv X pins σ H s → FpOk X pins H P →
      s.heap.get? P = some { cls := .type "list", dict := none, data := .seq acc c, slots := #[] } → acc.toList = strValues done → done.map (·.1) = ts.take i →
      codeAny (model X.prog X.w) A (.builtin "list.__repr__.loop" ⟨[.ref a, rawInt i, .ref P, rawInt ((base + piled (ts.take i) : Nat) : Int)], []⟩) R s := by
  have hX : (listText ts).length = (textFrom 0 "[" ts).length + 1 := by
    show (textFrom 0 "[" ts ++ "]").length = _
    rw [strLen_append]
    rfl
  have hL := textFrom_len ts 0 "["
  have z1 : ts.length ≤ sizeLine := by
    have q := hL.1
    rw [if_neg (Nat.lt_irrefl 0)] at q
    omega
  have z3 := piled_le_listText ts
  intro m
  induction m with
  | zero =>
    intro i H s acc c done hm hi hs I hP hPo hacc hdone
    obtain ⟨its, rv, ⟨o, n, ho, _, _, hd⟩, _⟩ := I.list (SqL.of (hs _ _ (hs0 _ _ h0)))
    have el := rv.length
    refine codeAny_builtin F.entry_list_repr_loop ?_
    show wpAny _ _ («list.__repr__.loop» ⟨[.ref a, .int i 0, .ref P, .int ((base + piled (ts.take i) : Nat) : Int) 0], []⟩) _ _ s
    rw [repr_loop_tree]
    refine wpAny_bind (wpAny_listItems ho hd ?_)
    have e0 : its.toArray[(i : Int).toNat]? = none := by
      rw [Int.toNat_natCast, List.getElem?_toArray]
      exact List.getElem?_eq_none (by omega)
    simp only [e0]
    unfold reprEnd
    refine wpAny_bind (wpAny_listItems hPo rfl ?_)
    rw [hacc, repr_fold]
    refine wpAny_bind (wpAny_pure ?_)
    rw [show done.map (·.1) = ts by rw [hdone]; exact List.take_of_length_le (by omega)]
    refine wpAny_bind (wpAny_mkStr (wpAny_pure ?_) (show (listText ts).length ≤ sizeLine by omega))
    exact hR H _ _ hs (I.tok _)
  | succ m ih =>
    intro i H s acc c done hm hi hs I hP hPo hacc hdone
    have hlt : i < xs.length := by omega
    obtain ⟨its, rv, ⟨o, n, ho, _, _, hd⟩, _⟩ := I.list (SqL.of (hs _ _ (hs0 _ _ h0)))
    have el := rv.length
    have hit : i < its.length := by omega
    obtain ⟨t, e, ht, he, hel⟩ := hT i xs[i] (List.getElem?_eq_getElem hlt)
    have p1 := piled_take_succ ht
    have p2 := piled_take_le ts (i + 1)
    have rx : RelV xs[i] its[i] := by
      obtain ⟨u, e1, e2⟩ := Vals.get rv (List.getElem?_eq_getElem hlt)
      rw [List.getElem?_eq_getElem hit] at e1
      rw [Option.some.inj e1]
      exact e2
    refine codeAny_builtin F.entry_list_repr_loop ?_
    show wpAny _ _ («list.__repr__.loop» ⟨[.ref a, .int i 0, .ref P, .int ((base + piled (ts.take i) : Nat) : Int) 0], []⟩) _ _ s
    rw [repr_loop_tree]
    refine wpAny_bind (wpAny_listItems ho hd ?_)
    have e0 : its.toArray[(i : Int).toNat]? = some its[i] := by
      rw [Int.toNat_natCast, List.getElem?_toArray]
      exact List.getElem?_eq_getElem hit
    simp only [e0]
    rw [Int.toNat_natCast]
    have Ip := I.pinned (fp := [P]) (fun b hb => by rw [List.mem_singleton.mp hb]; exact hP) fun b hb => by rw [List.mem_singleton.mp hb]; exact ⟨_, hPo, nofun⟩
    refine wpAny_bind (wpAny_holding (hel (pins ++ pinsAt [P] s.heap) σ H s its[i] (base + piled (ts.take i) + 1) (inLoop A _) _ _ _ (hs0.trans hs) Ip rx (by omega) (guards_under_guard (isGuard_list_loop _) hg) ?_ ((inLoop_frames ?_).trans hf) ?_ fun H' s' hs' I' => ?_))
    · exact (hcl _ _).le he
    · rw [hf, I.ok.frames]; nofun
    · exact inLoop_room (hr.mono (by omega))
    obtain ⟨q1, q2, _⟩ := I'.pin (P, _) (List.mem_append_right _ (List.mem_append_right _ (mem_pinsAt (List.mem_singleton.mpr rfl) hPo)))
    have I2 := I'.unpinned
    have hP' : FpOk X pins H' P := ⟨q2, hP.2⟩
    refine wpAny_bind (wpAny_mkStr ?_ (by omega))
    refine wpAny_bind ?_
    show wpAny _ _ (updateSeq P _) _ _ _
    have za : acc.size ≤ sizeLine := by
      have w1 : acc.toList.length = acc.size := by simp
      have w2 : (strValues done).length = done.length := by simp [strValues]
      have w3 : done.length = (ts.take i).length := by rw [← hdone, List.length_map]
      have w4 : (ts.take i).length ≤ i := by rw [List.length_take]; omega
      rw [hacc] at w1
      omega
    refine wpAny_updateSeq q1 rfl (wpAny_pure ⟨F.quiet_list_repr_loop _, ?_⟩) za
    have w5 : ((i : Int) + 1) = ((i + 1 : Nat) : Int) := by omega
    have w6 : base + piled (ts.take i) + (t.length + 2) = base + piled (ts.take (i + 1)) := by omega
    rw [w5, w6]
    refine ih (i + 1) H' _ (acc.push (.str t s'.toks)) _ (done ++ [(t, s'.toks)]) (by omega) hlt (hs.trans hs') ((I2.tok _).turnedL (ch := [P]) (fun b o hb q => (Heap.get?_update_other _ _ (fun z => hb (by rw [z]; exact List.mem_singleton.mpr rfl))).trans q) fun b hb => by rw [List.mem_singleton.mp hb]; exact hP') hP' (Heap.get?_update_self _ q1 rfl) ?_ ?_
    · simp [hacc, strValues]
    · rw [List.map_append, hdone, List.take_succ, ht]; rfl
theorem listW {A : Around} {g : List Code} {a : Addr} {xs : List V} {ts : List Str} {d base : Nat} {pins : List (Addr × Obj)} {σ : L2.St} {R : Result → Shared → Prop} {H : Hp} {s : Shared} (hx : NSeq RS H0) (h0 : H0 a = some (.lst xs)) (hsv : SwAll X.K RS H0 xs ts d) (hne : xs ≠ []) (hs : Same H0 H) (I : Inv X pins σ H s)
    (hg : A.guards = some g) (hcl : ClrW X.K RS H0 g (d + 1)) (hf : A.frames = X.A.frames) (hr : Room (k + d + 1) A) (hT : ∀ (i : Nat) (v : V), xs[i]? = some v → ∃ t e, ts[i]? = some t ∧ e ≤ d ∧ Elw X RS H0 k v t e) (hsz : base + (listText ts).length ≤ sizeLine)
    (hR : ∀ H' s' u, Same H H' → Inv X pins σ H' s' → R (.ok (.ret (.str (listText ts) u))) s') :
    wpAny (model X.prog X.w) A.in1 (Builtin.listReprAt base ⟨[.ref a], []⟩) (fun fin s' => match fin with | .done f => R (.ok f) s' | .again c' => c'.quiet = true ∧ codeAny (model X.prog X.w) A c' R s') (fun e s' => R (.error e) s') s := by
  obtain ⟨its, rv, ⟨o, n, ho, _, _, hd⟩, _⟩ := I.list (SqL.of (hs _ _ h0))
  have hca : Clear g a := hcl a _ _ (Nat.le_refl _) (.lst h0 hsv)
  cases its with
  | nil => exact absurd (List.eq_nil_of_length_eq_zero rv.length) hne
  | cons y l =>
    refine wpAny_list_repr_head (A := A.in1) hg (fun v rest kw hm => listSameRef_of_ne (hca _ _ _ _ hm)) ho hd ?_
    refine wpAny_bind (m := newList []) (wpAny_newObj_type ?_)
    refine wpAny_pure ⟨F.quiet_list_repr_loop _, ?_⟩
    refine loopW (d := d) (P := s.heap.objs.size) (Hs := H) h0 hs (Nat.ne_of_lt (Heap.lt_size ho)) hg (fun rest kw b t e he hb => ?_) hf hr (sws_len hsv) hT hsz hR _ 0 H _ #[] _ [] rfl (Nat.zero_le _) (Same.refl _) (I.kept fun b o e => Heap.get?_push_of_some _ e) (I.fpOk (Nat.le_refl _) (I.hok.fresh (Nat.le_refl _))) (Heap.get?_push_size _ rfl) rfl (by simp)
    exact (hcl b t e (by omega) hb).cons fun z => by
      subst z
      have := sw_deep hx ((uq_of I).back hs) hb (.lst h0 hsv)
      omega
theorem elw_lst {a : Addr} {xs : List V} {ts : List Str} {d : Nat} (hx : NSeq RS H0) (h0 : H0 a = some (.lst xs)) (hsv : SwAll X.K RS H0 xs ts d) (hT : ∀ (i : Nat) (v : V), xs[i]? = some v → ∃ t e, ts[i]? = some t ∧ e ≤ d ∧ Elw X RS H0 k v t e) : Elw X RS H0 k (.ref a) (listText ts) (d + 1) := by
  intro pins σ H s u base A g E Q hs I ru hsz hg hcl hf hr hQ
  obtain rfl : u = .ref a := ru
  have hu : A.units < cLine := by have := hr.un; omega
  obtain ⟨its, rv, ⟨o, n, ho, hc, _, hd⟩, _⟩ := I.list (SqL.of (hs _ _ h0))
  by_cases hne : xs = []
  · subst hne
    cases hsv
    cases rv
    exact wpAny_pyReprUnder_ref (by omega) (wpAny_pyReprObjUnder_list_empty ⟨o, ho, hc⟩ hu ho hd ⟨_, _, rfl, hQ H _ (Same.refl _) (I.tok _)⟩)
  · refine wpAny_pyReprUnder_ref (by omega) (wpAny_pyReprObjUnder_twin (twin := "list.__repr__.under") ⟨o, ho, hc⟩ F.slot_list_repr.toG rfl hu ?_)
    exact call_twin_plain F.plain_list_repr_under F.entry_list_repr_under F.check_list_repr_under ⟨o, ho, hc⟩ F.slot_list_repr.toG (F.args_list_repr_1 _)
      (listW (R := callEnd _ _) hx h0 hsv hne hs I hg hcl hf hr hT hsz fun H' s' u s1 I1 => ⟨⟨_, _, rfl⟩, _, _, rfl, hQ H' s' s1 I1⟩)
inductive ElwL (X : Cx) (RS : Hp → V → Str → Prop) (H0 : Hp) (k d : Nat) : List V → List Str → Prop
  | nil : ElwL X RS H0 k d [] []
  | cons {v : V} {t : Str} {xs : List V} {ts : List Str} {e : Nat} : e ≤ d → Elw X RS H0 k v t e → ElwL X RS H0 k d xs ts → ElwL X RS H0 k d (v :: xs) (t :: ts)
theorem elwL_of {d : Nat} : ∀ {xs : List V} {ts : List Str}, ts.length = xs.length → (∀ (i : Nat) (v : V), xs[i]? = some v → ∃ t e, ts[i]? = some t ∧ e ≤ d ∧ Elw X RS H0 k v t e) → ElwL X RS H0 k d xs ts
  | [], [], _, _ => .nil
  | v :: xs, [], h, _ => by cases h
  | [], t :: ts, h, _ => by cases h
  | v :: xs, t :: ts, h, hT => by
    obtain ⟨t', e, h1, h2, h3⟩ := hT 0 v rfl
    cases h1
    exact .cons h2 h3 (elwL_of (by simpa using h) fun i v h => hT (i + 1) v (by simpa using h))
theorem ElwL.len {d : Nat} : ∀ {xs : List V} {ts : List Str}, ElwL X RS H0 k d xs ts → ts.length = xs.length
  | _, _, .nil => rfl
  | _, _, .cons _ _ r => by simp [r.len]
theorem tupFoldW {A : Around} {g : List Code} {d : Nat} {pins : List (Addr × Obj)} {σ : L2.St} {E : Value → Shared → Prop} (hg : A.guards = some g) (hcl : ClrW X.K RS H0 g d) (hf : A.frames = X.A.frames) (hr : Room (k + d) A) :
    ∀ (l : List Value) (xs : List V) (ts : List Str) (acc : Array Str) (n : Nat) (H : Hp) (s : Shared) (Q : (Array Str × Nat) → Shared → Prop), Vals xs l → ElwL X RS H0 k d xs ts → Same H0 H → Inv X pins σ H s → n + piled ts ≤ sizeLine →
      (∀ H' s', Same H H' → Inv X pins σ H' s' → Q ⟨acc ++ ts.toArray, n + piled ts⟩ s') → wpAny (model X.prog X.w) A (forIn l (⟨acc, n⟩ : (Array Str × Nat)) tupBody) Q E s := by
  intro l
  induction l with
  | nil =>
    intro xs ts acc n H s Q hv hT hs I hn h
    cases hv
    cases hT
    simp only [List.forIn_nil]
    exact wpAny_pure (by simpa [piled] using h H s (Same.refl _) I)
  | cons x l ih =>
    intro xs ts acc n H s Q hv hT hs I hn h
    cases hv with
    | cons hv1 hv2 =>
      cases hT with
      | cons he hx hl =>
        rename_i v xs' t ts' e
        rw [piled_cons] at hn
        rw [List.forIn_cons]
        refine wpAny_bind (wpAny_bind (hx pins σ H s x (n + 1) A g _ _ hs I hv1 (by omega) hg (hcl.le he) hf (hr.mono (by omega)) fun H' s' s1 I1 => wpAny_pure ?_))
        refine ih xs' ts' (acc.push t) (n + (t.length + 2)) H' _ Q hv2 hl (hs.trans s1) I1 (by omega) fun H'' s'' s2 I2 => ?_
        have h1 := h H'' s'' (s1.trans s2) I2
        have e : n + piled (t :: ts') = n + (t.length + 2) + piled ts' := by rw [piled_cons]; omega
        rw [e] at h1
        simpa using h1
theorem under_room {A : Around} {c : Code} {k : Nat} (hu : (A.under c).units = A.units + 1) (hd : (A.under c).depth ≤ A.depth + 1) (h : Room (k + 1) A) : Room k (A.under c) := by
  refine ⟨h.hd, ?_, ?_⟩
  · have h1 := h.dp
    omega
  · have h1 := h.un
    rw [hu]
    omega
theorem tupleW {A : Around} {g : List Code} {a : Addr} {xs : List V} {ts : List Str} {d base : Nat} {pins : List (Addr × Obj)} {σ : L2.St} {R : Result → Shared → Prop} {H : Hp} {s : Shared} {id : String} {rest : List Value} (hx : NSeq RS H0) (h0 : SqT X.K H0 a xs) (hsv : SwAll X.K RS H0 xs ts d) (hs : Same H0 H) (I : Inv X pins σ H s)
    (hcg : (Code.builtin id ⟨.ref a :: rest, []⟩).isGuard = true) (hcu : (A.under (.builtin id ⟨.ref a :: rest, []⟩)).units = A.units + 1) (hcd : (A.under (.builtin id ⟨.ref a :: rest, []⟩)).depth ≤ A.depth + 1) (hcf : (A.under (.builtin id ⟨.ref a :: rest, []⟩)).frames = A.frames)
    (hg : A.guards = some g) (hcl : ClrW X.K RS H0 g (d + 1)) (hf : A.frames = X.A.frames) (hr : Room (k + d + 1) A) (hT : ∀ (i : Nat) (v : V), xs[i]? = some v → ∃ t e, ts[i]? = some t ∧ e ≤ d ∧ Elw X RS H0 k v t e) (hsz : base + (tupleText ts).length ≤ sizeLine)
    (hR : ∀ H' s' u, Same H H' → Inv X pins σ H' s' → R (.ok (.ret (.str (tupleText ts) u))) s') :
    wpOwn (model X.prog X.w) A (.builtin id ⟨.ref a :: rest, []⟩) (Builtin.tupleReprAt base ⟨[.ref a], []⟩) (fun fin s' => match fin with | .done f => R (.ok f) s' | .again c' => c'.quiet = true ∧ codeAny (model X.prog X.w) A c' R s') (fun e s' => R (.error e) s') s := by
  obtain ⟨its, rv, ⟨o, ho, hc, n, hd⟩, _⟩ := I.tuple (sqt_same hs h0)
  have hca : Clear g a := hcl a _ _ (Nat.le_refl _) (.tup h0 hsv)
  have hlen : ts.length = xs.length := sws_len hsv
  have hl2 := rv.length
  have hp := piled_le_tupleText ts
  have hsz0 : (tupleText ts).length ≤ sizeLine := by omega
  rw [tuple_repr_tree, tupleReprUnderWay_eq]
  refine wpOwn_bind (wpOwn_stackTailAny hg (tupGuardF_off _) (tupGuardF_pos _) ?_)
  have hn : (g.any fun c => tupGuardF (.ref a) (c, default)) = false := by
    rw [List.any_eq_false]
    intro c hcm
    rw [tupGuardF_of_clear hca c hcm]
    exact Bool.false_ne_true
  rw [hn]
  refine wpOwn_of_wpAny ?_
  show wpAny _ _ (tupleReprRest base (.ref a)) _ _ s
  unfold tupleReprRest Builtin.Tuple.tupleItemsOf
  refine wpAny_bind (wpAny_bind (wpAny_seqItems ho hd (wpAny_pure ?_)))
  rw [← Array.forIn_toList]
  refine wpAny_bind (tupFoldW (d := d) (guards_under_guard hcg hg) (fun b t e he hb => (hcl b t e (by omega) hb).cons fun z => ?_) (hcf.trans hf) (under_room hcu hcd hr) _ xs ts _ _ H _ _ (by simpa using rv) (elwL_of hlen hT) hs I (by omega) fun H' s' s1 I1 => ?_)
  · subst z
    have := sw_deep hx ((uq_of I).back hs) hb (.tup h0 hsv)
    omega
  refine wpAny_bind (wpAny_mkStr (wpAny_pure ?_) (by simpa [tupleText, hlen, hl2] using hsz0))
  have h1 := hR H' { s' with toks := s'.toks + 1 } s'.toks s1 (I1.tok _)
  simpa [tupleText, hlen, hl2] using h1
theorem tupUnder {A : Around} {id : String} (args : Args) (hid : id = "tuple.__repr__.under" ∨ id = "tuple.__repr__") (hf : A.frames ≠ none) : (A.under (.builtin id args)).frames = A.frames ∧ (A.under (.builtin id args)).depth ≤ A.depth + 1 := by
  have hq : (Code.builtin id args).isFrame = false := rfl
  constructor
  · cases e : A.frames with
    | none => exact absurd e hf
    | some l => simp [Around.under, Code.envs, pushEnvs, e, hq, Code.frames]
  · rcases hid with rfl | rfl <;> simp [Around.under, Code.weight, Code.isCreation, Code.isGuard, Code.isCaller, Code.frames, Code.isFrame, guardIds]
theorem elw_tup {a : Addr} {xs : List V} {ts : List Str} {d : Nat} (hx : NSeq RS H0) (h0 : SqT X.K H0 a xs) (hsv : SwAll X.K RS H0 xs ts d) (hT : ∀ (i : Nat) (v : V), xs[i]? = some v → ∃ t e, ts[i]? = some t ∧ e ≤ d ∧ Elw X RS H0 k v t e) : Elw X RS H0 k (.ref a) (tupleText ts) (d + 1) := by
  intro pins σ H s u base A g E Q hs I ru hsz hg hcl hf hr hQ
  obtain rfl : u = .ref a := ru
  have hu : A.units < cLine := by have := hr.un; omega
  obtain ⟨its, rv, ⟨o, ho, hc, n, hd⟩, _⟩ := I.tuple (sqt_same hs h0)
  have hfn : A.frames ≠ none := by rw [hf, I.ok.frames]; nofun
  refine wpAny_pyReprUnder_ref (by omega) (wpAny_pyReprObjUnder_twin (twin := "tuple.__repr__.under") ⟨o, ho, hc⟩ F.slot_tuple_repr rfl hu ?_)
  have tu := tupUnder (A := A) (id := "tuple.__repr__.under") ⟨[.ref a, rawInt base], []⟩ (.inl rfl) hfn
  exact call_twin_own (F.quiet_tuple_repr_under _) F.entry_tuple_repr_under F.check_tuple_repr_under ⟨o, ho, hc⟩ F.slot_tuple_repr (F.args_tuple_repr_1 _)
    (tupleW (R := callEnd _ _) hx h0 hsv hs I (isGuard_tuple_repr_under _) (units_under_tuple_repr_under _ _) tu.2 tu.1 hg hcl hf hr hT hsz fun H' s' u s1 I1 => ⟨⟨_, _, rfl⟩, _, _, rfl, hQ H' s' s1 I1⟩)
theorem elw_is {v : V} {t : Str} (h : ∀ u, RelV v u → ReprIs X.prog X.w u t) : Elw X RS H0 k v t 0 := fun pins σ H s u base A g E Q hs I ru hsz _ _ _ _ hQ => h u ru base hsz A E s Q fun tk => hQ H _ (Same.refl _) (I.tok _)
theorem elw_dct {a : Addr} (h : H0 a = some (.dK [])) : Elw X RS H0 k (.ref a) (dictText []) 0 := by
  intro pins σ H s u base A g E Q hs I ru hsz hg hcl hf hr hQ
  obtain rfl : u = .ref a := ru
  obtain ⟨_, hsm, vs, hkv, o, es, ep, ho, hx, hd, _, hp, _⟩ := dk_of I.hok (hs _ _ h)
  have ev : vs = [] := by
    cases hkv
    rfl
  subst ev
  have ee : es.toList = [] := by
    generalize es.toList = l at hp
    cases hp
    rfl
  refine ReprK.dict (as := []) (d := 0) ho hx.1 hd hsm nofun (by rw [ee]; exact .nil) base hsz A g E s Q hg (fun b hb => ?_) (by have := hr.un; omega) (fun _ _ e => e) fun h' tk hk => hQ H _ (Same.refl _) (I.kept hk)
  rw [List.mem_singleton.mp hb]
  exact hcl a _ 0 (Nat.le_refl _) (.dct h)
mutual
theorem elw_of (hx : NSeq RS H0) (hown : ∀ v t, RS H0 v t → Elw X RS H0 k v t 0) : ∀ {v : V} {t : Str} {d : Nat}, Sw X.K RS H0 v t d → Elw X RS H0 k v t d
  | _, _, _, .non => elw_is fun u r => by cases r; exact ReprIs.none
  | _, _, _, .bl b => elw_is fun u r => by cases r; exact ReprIs.bool b
  | _, _, _, .int i h => elw_is fun u r => by obtain ⟨t, rfl⟩ := r; exact ReprIs.int t h
  | _, _, _, .str x h => elw_is fun u r => by obtain ⟨t, rfl⟩ := r; exact ReprIs.str x t h
  | _, _, _, .own h => hown _ _ h
  | _, _, _, .dct h => elw_dct h
  | _, _, _, .lst h r => elw_lst hx h r fun i v e => elwAll hx hown r i v e
  | _, _, _, .tup h r => elw_tup hx h r fun i v e => elwAll hx hown r i v e
theorem elwAll (hx : NSeq RS H0) (hown : ∀ v t, RS H0 v t → Elw X RS H0 k v t 0) : ∀ {xs : List V} {ts : List Str} {d : Nat}, SwAll X.K RS H0 xs ts d → ∀ (i : Nat) (v : V), xs[i]? = some v → ∃ t e, ts[i]? = some t ∧ e ≤ d ∧ Elw X RS H0 k v t e
  | _, _, _, .nil, i, v, e => by simp at e
  | _, _, _, .cons (d := d1) h _, 0, v, e => by
    simp at e
    subst e
    exact ⟨_, d1, rfl, Nat.le_max_left _ _, elw_of hx hown h⟩
  | _, _, _, .cons _ r, i + 1, v, e => by
    obtain ⟨t, e1, h1, h2, h3⟩ := elwAll hx hown r i v (by simpa using e)
    exact ⟨t, e1, by simpa using h1, Nat.le_trans h2 (Nat.le_max_right _ _), h3⟩
end
theorem elw_own {C q : Str} {st : Stmt} {ps : List Str} {sp : Sp} {js : List Nat} (F : HasMA X.prog X.w X.K X.mg X.base C8.CX0 k C "__repr__" q st [] ps sp) (hb : BindJ "__repr__" q st ps 0 1 [] js) {v : V} {t : Str} (h : OwnR X.K C sp js H0 v t) : Elw X RS H0 k v t 0 := by
  intro pins σ H s u base A g E Q hs I ru hsz hg _ hf hr hQ
  obtain ⟨a, dx, fl, rfl, ha, hq⟩ := h
  obtain rfl : u = .ref a := ru
  obtain ⟨fd, FD, G⟩ := F.ex
  obtain ⟨gg, B⟩ := kbn FD hb
  obtain ⟨mA, J, _⟩ := ins_get I.hok (hs _ _ ha)
  obtain ⟨od, J, _⟩ := J.look
  have e0 : Env0 X.prog X.w X.K X.mg X.base A X.stack s H := by
    have e := I.env0
    exact ⟨by rw [hf]; exact e.frames, e.mod, e.bs, e.bsz, e.funs, e.frf, e.hok, e.bare⟩
  refine wpAny_pyReprUnder_ref (by omega) (wpAny_mono (under_own (Q := fun v s' => ∃ x u, v = .str x u ∧ Q x s') (by have := hr.un; omega) I.kIn J F.mt.at_ F.mt.fn ?_) (fun v s' hv => ?_) fun _ _ x => x)
  · have b := B.to s [.ref a] [] I.kIn rfl rfl
    refine wpAny_call (codeAny_mono (G.run A X.stack s H ⟨[.ref a], []⟩ _ _ _ _ hr e0 b (B.rel (.cons (show RelV (.ref a) (.ref a) from rfl) .nil) .nil) (hq H (ExtN.of hs))) fun z s' hz => ?_)
    cases z with
    | error e => exact (show False from hz).elim
    | ok flw =>
      cases flw with
      | ret u =>
        obtain ⟨v, H', I', rv, rfl, s1⟩ := I.after hz
        obtain ⟨tk, rfl⟩ := rv
        exact ⟨_, _, rfl, hQ H' _ s1 I'⟩
      | next => exact hz.elim
      | brk => exact hz.elim
      | cont => exact hz.elim
  · obtain ⟨x, u, rfl, y, u2, e, hq2⟩ := hv
    cases e
    exact ⟨_, _, rfl, hq2⟩
end
section
variable {X : Cx} {k : Nat}
theorem ownR_seq {K : PySem.W.Frag} {C : Str} {sp : Sp} {js : List Nat} {H : Hp} : NSeq (OwnR K C sp js) H := fun a t h => by
  obtain ⟨b, dx, fl, e, h1, _⟩ := h
  cases e
  exact ⟨_, _, _, h1⟩
def rReprW (K : PySem.W.Frag) (RS : Hp → V → Str → Prop) : List V → Hp → VK → Prop := fun xs H Q => ∃ v t d, xs = [v] ∧ Sw K RS H v t d ∧ d ≤ 5 ∧ (∃ a l, v = .ref a ∧ (H a = some (.lst l) ∨ SqT K H a l)) ∧ t.length ≤ sizeLine ∧ ∀ H', Same H H' → Q (.str t) H'
end
def rReprV (K : PySem.W.Frag) (RS : Hp → V → Str → Prop) : List V → Hp → VK → Prop := fun xs H Q => rReprX K xs H Q ∨ rReprW K RS xs H Q
theorem w_reprVd {K : PySem.W.Frag} {RS : Hp → V → Str → Prop} {H : Hp} {Q : VK} {v : V} {d : PyData} (h : Dx K H v d) (s : ShowsX d) (q : Q (.str d.shown) H) : rReprV K RS [v] H Q := .inl ⟨v, d, rfl, h, s, q⟩
theorem w_reprVo {K : PySem.W.Frag} {RS : Hp → V → Str → Prop} {H : Hp} {Q : VK} {a : Addr} {l : List V} {t : Str} {d : Nat} (h : Sw K RS H (.ref a) t d) (hd : d ≤ 5) (ha : H a = some (.lst l) ∨ SqT K H a l) (ht : t.length ≤ 1000000) (q : ∀ H', Same H H' → Q (.str t) H') : rReprV K RS [.ref a] H Q := .inr ⟨.ref a, t, d, rfl, h, hd, ⟨a, l, rfl, ha⟩, Nat.le_trans ht (by rw [sizeLine_eq]; decide), q⟩
end TP
namespace TP
open PySem PySem.Spec PyProof.Rows L2 LamX
open Builtin Builtin.List
def OwnY (K : PySem.W.Frag) (C : Str) (sp : Sp) (js : List Nat) : Hp → V → Str → Prop := fun H v t => OwnR K C sp js H v t ∨ ∃ ks : List Int, v = .byt (byteArr ks) ∧ ks.length ≤ 100000 ∧ t = litB ks
section
variable {K : PySem.W.Frag} {C : Str} {sp : Sp} {js : List Nat} {H H' : Hp}
theorem ownY_seq : NSeq (OwnY K C sp js) H := fun a t h => by
  rcases h with h | ⟨ks, e, _⟩
  · exact ownR_seq a t h
  · cases e
theorem ownY_same (s : Same H H') : ∀ v t, OwnY K C sp js H v t → OwnY K C sp js H' v t := fun v t h => h.imp (ownR_same s v t) id
theorem ownY_x (s : ExtN H H') : ∀ v t, OwnY K C sp js H v t → OwnY K C sp js H' v t := fun v t h => h.imp (ownR_x s v t) id
end
theorem is_byt {prog : Program} {w : World} {ks : List Int} {t : Tok} (hl : ks.length ≤ 100000) : ReprIs prog w (.bytes (byteArr ks) t) (litB ks) := fun n hn _ _ s _ h => by
  have hn' : n ≤ sizeLine := by omega
  rw [pyReprUnder_leaf (v := .bytes (byteArr ks) t) hn' (fun _ e => nomatch e)]
  unfold pyRepr
  have hz : 4 * (byteArr ks).size + 3 ≤ 16777216 := by rw [byteArr_size]; omega
  exact wpAny_bind (wpAny_pyReprObj_gives (PySem.W.typeIs_bytes s _ _) TPY.slot_reprB TPY.entry_reprB (TPY.args_reprB _) (TPY.gives_reprB _ _ hz) (wpAny_pure (h _)) (hx := by have := lit_len ks; show (litB ks).length ≤ sizeLine; rw [sizeLine_eq]; omega))
section
variable {X : Cx} {RS : Hp → V → Str → Prop} {H0 : Hp} {k : Nat}
theorem elw_Y {C q : Str} {st : Stmt} {ps : List Str} {sp : Sp} {js : List Nat} (F : HasMA X.prog X.w X.K X.mg X.base C8.CX0 k C "__repr__" q st [] ps sp) (hb : BindJ "__repr__" q st ps 0 1 [] js) {v : V} {t : Str} (h : OwnY X.K C sp js H0 v t) : Elw X RS H0 k v t 0 := by
  rcases h with h | ⟨ks, rfl, hl, rfl⟩
  · exact elw_own F hb h
  · exact elw_is fun u r => by
      obtain ⟨t, rfl⟩ := r
      exact is_byt hl
theorem k_reprWY {C q : Str} {st : Stmt} {ps : List Str} {sp : Sp} {js : List Nat} (F : HasMA X.prog X.w X.K X.mg X.base C8.CX0 k C "__repr__" q st [] ps sp) (hb : BindJ "__repr__" q st ps 0 1 [] js) (hr : Room (k + 7) X.A) (hg : X.A.guards = some []) : CallR X (.builtin "repr") (rReprW X.K (OwnY X.K C sp js)) := by
  intro pins s σ H xs us Q I r h
  obtain ⟨v, t, d, rfl, hsv, hd, ⟨a, l, rfl, ha⟩, hz, hQ⟩ := h
  obtain ⟨u, rfl, ru⟩ := vals1 r
  obtain rfl : u = .ref a := ru
  have hu : X.A.units + 1 < cLine := by have := hr.un; omega
  rcases ha with ha | ha
  · obtain ⟨its, rv, ⟨o, n, ho, hc, _, hdd⟩, _⟩ := I.list (SqL.of ha)
    refine call_repr_slot hu ⟨o, ho, hc⟩ PySem.F.slot_list_repr.toG ?_
    cases hsv with
    | own z =>
      obtain ⟨C, dx, fl, e⟩ := ownY_seq _ _ z
      rw [e] at ha; cases ha
    | dct z => rw [z] at ha; cases ha
    | tup z _ => exact absurd ha (((uq_of I) _ _ z).2.1 _)
    | @lst _ xs ts d h0 hs =>
      by_cases hne : xs = []
      · subst hne
        rw [h0] at ha
        cases ha
        cases hs
        cases rv
        exact call_list_repr_empty ⟨o, ho, hc⟩ ho hdd ⟨_, _, rfl, .str "[]", H, I.tok _, ⟨_, rfl⟩, hQ H (Same.refl _)⟩
      · refine wpAny_call (codeAny_call_builtin PySem.F.slot_list_repr.plain PySem.F.entry_list_repr (PySem.F.slot_list_repr.check _ _ _ _ _ _ _ _ ⟨o, ho, hc⟩ (PySem.F.args_list_repr_1 _)
          (listW (k := k) (base := 0) (R := callEnd _ _) ownY_seq h0 hs hne (Same.refl _) I (show X.A.in1.guards = some [] from hg) (fun _ _ _ _ _ => Clear.nil _) rfl ?_ (fun i v e => elwAll ownY_seq (fun v t h => elw_Y F hb h) hs i v e) (by omega) fun H' s' u s1 I1 => ⟨_, _, rfl, .str (listText ts), H', I1, ⟨_, rfl⟩, hQ H' s1⟩)))
        exact (Room.mono (show Room (k + 6) X.A.in1 from hr.in1) (by omega))
  · obtain ⟨its, rv, ⟨o, ho, hc, n, hdd⟩, _⟩ := I.tuple ha
    refine call_repr_slot hu ⟨o, ho, hc⟩ PySem.F.slot_tuple_repr ?_
    cases hsv with
    | own z =>
      obtain ⟨C, dx, fl, e⟩ := ownY_seq _ _ z
      exact absurd e (((uq_of I) _ _ ha).2.2.2 _ _ _)
    | dct z => exact absurd z ((uq_of I) _ _ ha).2.2.1
    | lst z _ => exact absurd z (((uq_of I) _ _ ha).2.1 _)
    | @tup _ xs ts d h0 hs =>
      have hfn : X.A.in1.frames ≠ none := by
        have := I.ok.frames
        rw [show X.A.in1.frames = X.A.frames from rfl, this]; nofun
      have tu := tupUnder (A := X.A.in1) (id := "tuple.__repr__") ⟨[.ref a], []⟩ (.inr rfl) hfn
      refine wpAny_call (codeAny_call_builtin_own (Code.quiet_builtin _ (by decide +kernel)) PySem.F.entry_tuple_repr (PySem.F.slot_tuple_repr.check _ _ _ _ _ _ _ _ ⟨o, ho, hc⟩ (PySem.F.args_tuple_repr_1 _)
        (tupleW (k := k) (base := 0) (R := callEnd _ _) ownY_seq h0 hs (Same.refl _) I (isGuard_tuple_repr _) (units_under_tuple_repr _ _) tu.2 tu.1 (show X.A.in1.guards = some [] from hg) (fun _ _ _ _ _ => Clear.nil _) rfl ?_ (fun i v e => elwAll ownY_seq (fun v t h => elw_Y F hb h) hs i v e) (by omega) fun H' s' u s1 I1 => ⟨_, _, rfl, .str (tupleText ts), H', I1, ⟨_, rfl⟩, hQ H' s1⟩)))
      exact (Room.mono (show Room (k + 6) X.A.in1 from hr.in1) (by omega))
end
theorem k_reprY {X : Cx} {k : Nat} (K : PySem.W.Frag) {C q : Str} {st : Stmt} {ps : List Str} {sp : Sp} {js : List Nat} (F : HasMA X.prog X.w K X.mg X.base C8.CX0 k C "__repr__" q st [] ps sp) (hb : BindJ "__repr__" q st ps 0 1 [] js) (hr : Room (k + 7) X.A) (hg : X.A.guards = some []) (hu : X.A.units + 64 < cLine) (hK : X.K = K := by rfl) : CallR X (.builtin "repr") (rReprV K (OwnY K C sp js)) := by
  subst hK
  intro pins s σ H xs us Q I r h
  rcases h with h | h
  · exact call_reprX hg hu pins s σ H xs us Q I r h
  · exact k_reprWY F hb hr hg pins s σ H xs us Q I r h
def ShY (K : PySem.W.Frag) (RS : Hp → V → Str → Prop) (H : Hp) (y : V) : Prop := (∃ d, Dx K H y d ∧ smW d = true) ∨ ∃ t d, Sw K RS H y t d ∧ d ≤ 3 ∧ t.length ≤ 900000
section
variable {K : PySem.W.Frag} {RS : Hp → V → Str → Prop} {H H' : Hp} {y : V} {wd : Str}
mutual
theorem sw_x (s : ExtN H H') (hR : ∀ v t, RS H v t → RS H' v t) : ∀ {v : V} {t : Str} {d : Nat}, Sw K RS H v t d → Sw K RS H' v t d
  | _, _, _, .non => .non
  | _, _, _, .bl b => .bl b
  | _, _, _, .int i h => .int i h
  | _, _, _, .str x h => .str x h
  | _, _, _, .own h => .own (hR _ _ h)
  | _, _, _, .dct h => .dct (s _ _ h nofun)
  | _, _, _, .lst h r => .lst (lst_x s h) (sws_x s hR r)
  | _, _, _, .tup h r => .tup (sqt_x s h) (sws_x s hR r)
theorem sws_x (s : ExtN H H') (hR : ∀ v t, RS H v t → RS H' v t) : ∀ {xs : List V} {ts : List Str} {d : Nat}, SwAll K RS H xs ts d → SwAll K RS H' xs ts d
  | _, _, _, .nil => .nil
  | _, _, _, .cons h r => .cons (sw_x s hR h) (sws_x s hR r)
end
theorem shY_x (s : ExtN H H') (hR : ∀ v t, RS H v t → RS H' v t) (h : ShY K RS H y) : ShY K RS H' y := by
  rcases h with ⟨d, hd, hs⟩ | ⟨t, e, hs, he, ht⟩
  · exact .inl ⟨d, dx_x s hd, hs⟩
  · exact .inr ⟨t, e, sw_x s hR hs, he, ht⟩
theorem due_reprY (hm : ∀ {H H' : Hp}, Same H H' → ∀ v t, RS H v t → RS H' v t) (hw : (okX (.str wd) && decide (rbX (.str wd) ≤ 200)) = true) (h : ShY K RS H y) :
    ∃ T : Str, ∀ H', Same H H' → ∀ (D : Addr) (Q : VK), H' D = some (.lst [.str wd, y]) → (∀ H'', Same H' H'' → Q (.str T) H'') → rReprV K RS [.ref D] H' Q := by
  rcases h with ⟨d, hd, hs⟩ | ⟨t, e, hs, he, ht⟩
  · refine ⟨(PyData.list [.str wd, d]).shown, fun H' s D Q hD hQ => ?_⟩
    refine w_reprVd (d := .list [.str wd, d]) (.lst (SqL.of hD) (.cons (.str _) (.cons (dx_same s hd) .nil))) ?_ (hQ H' (Same.refl _))
    simp only [smW, Bool.and_eq_true, decide_eq_true_eq] at hs hw
    obtain ⟨k1, k2, k3, k4⟩ := hs
    refine ⟨?_, ?_, ?_, ?_⟩
    · show (okX (.str wd) && (okX d && true)) = true
      rw [hw.1, k1]; rfl
    · show (rbX (.str wd) + 2 + (rbX d + 2 + 0)) + 2 ≤ _
      have := hw.2
      omega
    · simp only [PyData.depth, PyData.depthAll]; omega
    · have e : (PyData.list [.str wd, d]).hasDict = d.hasDict := by simp [PyData.hasDict, PyData.hasDictAll]
      show (!(PyData.list [.str wd, d]).hasDict || _) = true
      rw [e]
      simp at k4
      rw [k4]; rfl
  · refine ⟨listText [reprText wd, t], fun H' s D Q hD hQ => ?_⟩
    simp only [Bool.and_eq_true, decide_eq_true_eq] at hw
    have hl := shown_leX (.str wd) hw.1
    have hl : (reprText wd).length ≤ 200 := Nat.le_trans hl hw.2
    have hr : Sw K RS H' (.str wd) (reprText wd) 0 := .str wd (Nat.le_trans hl (by rw [sizeLine_eq]; decide))
    have b1 := listText_le [reprText wd, t]
    simp only [List.map_cons, List.map_nil, List.sum_cons, List.sum_nil] at b1
    refine w_reprVo (.lst hD (.cons hr (.cons (sw_same s (hm s) hs) .nil))) ?_ (.inl hD) (by omega) hQ
    have e1 : max e 0 = e := Nat.max_eq_left (Nat.zero_le _)
    rw [e1, Nat.max_eq_right (Nat.zero_le _)]
    omega
end
end TP
namespace TP
open PySem PySem.Spec PyProof.Rows L2 LamX
def okDue (qs : Bag) (q : Str × Int) : Bool := decide (1 ≤ q.1.length) && decide (q.1.length ≤ 8) && (match qs.getLast? with
  | none => true
  | some p => decide (ltS p.1 q.1))
def dueR : Bag → Nat → List Int → Option (Bag × List Int)
  | qs, 0, r => some (qs, r)
  | qs, m + 1, r => match pairR r with
    | none => none
    | some (q, r1) => if okDue qs q = true then dueR (qs ++ [q]) m r1 else none
theorem pairR_inv {r r1 : List Int} {q : Str × Int} (h : pairR r = some (q, r1)) : ∃ a ra b, blockR r = some (a, ra) ∧ blockR ra = some (b, r1) ∧ b ≠ [] ∧ b.head? ≠ some 0 ∧ a.all letB = true ∧ q = (txtB a, valB b) := by
  unfold pairR at h
  cases ha : blockR r with
  | none => rw [ha] at h; cases h
  | some z =>
    obtain ⟨a, ra⟩ := z
    rw [ha] at h
    dsimp only at h
    cases hb : blockR ra with
    | none => rw [hb] at h; cases h
    | some y =>
      obtain ⟨b, rb⟩ := y
      rw [hb] at h
      dsimp only at h
      split at h
      · cases h
      · rename_i hn
        cases h
        rw [not_or, not_or] at hn
        exact ⟨a, ra, b, rfl, hb, hn.1, hn.2.1, by simpa using hn.2.2, rfl⟩
theorem val_pos {b : List Int} (h8 : B8 b) (h1 : b ≠ []) (h2 : b.head? ≠ some 0) : 1 ≤ valB b := by
  cases b with
  | nil => exact absurd rfl h1
  | cons k t =>
    have hk := h8 k List.mem_cons_self
    have hk0 : k ≠ 0 := fun e => h2 (by rw [e]; rfl)
    have : ∀ (b : List Int) (n : Int), (∀ k ∈ b, 0 ≤ k) → 1 ≤ n → 1 ≤ b.foldl (fun x y => x * 256 + y) n := fun b => by
      induction b with
      | nil => exact fun n _ h => h
      | cons k t ih => exact fun n hb hn => ih _ (fun y hy => hb y (List.mem_cons_of_mem _ hy)) (by have := hb k List.mem_cons_self; show 1 ≤ n * 256 + k; omega)
    show 1 ≤ t.foldl (fun x y => x * 256 + y) (0 * 256 + k)
    exact this t _ (fun y hy => (h8 y (List.mem_cons_of_mem _ hy)).1) (by omega)
theorem txtB_len (a : List Int) : (txtB a).length = a.length := by
  show ((a.map Int.toNat).toArray).size = a.length
  rw [List.size_toArray, List.length_map]
theorem txtB_let {a : List Int} (h : a.all letB = true) : (txtB a).cps.toList.all isLet = true := by
  rw [List.all_eq_true] at h ⊢
  intro c hc
  obtain ⟨k, hk, rfl⟩ := List.mem_map.mp (show c ∈ a.map Int.toNat from hc)
  have := letB_eq.mp (h k hk)
  unfold isLet
  simp only [Bool.and_eq_true, decide_eq_true_eq]
  omega
theorem pairR_ok {r r1 : List Int} {q : Str × Int} (h8 : B8 r) (h : pairR r = some (q, r1)) (hl : 1 ≤ q.1.length ∧ q.1.length ≤ 8) : isName q.1 = true ∧ 1 ≤ q.2 ∧ B8 r1 := by
  obtain ⟨a, ra, b, ha, hb, h1, h2, h3, rfl⟩ := pairR_inv h
  have b1 := blockR_ok ha h8
  have b2 := blockR_ok hb b1.2.2.2.1
  refine ⟨?_, val_pos b2.2.2.1 h1 h2, b2.2.2.2.1⟩
  have := txtB_let h3
  unfold isName
  have hl : 1 ≤ (txtB a).length ∧ (txtB a).length ≤ 8 := hl
  rw [decide_eq_true (show 0 < (txtB a).length from hl.1), decide_eq_true (show (txtB a).length < 9 by omega), this]
  rfl
theorem bag_snocD {qs : Bag} {q : Str × Int} (h : BagOk qs) (hn : isName q.1 = true) (h1 : 1 ≤ q.2) (ho : okDue qs q = true) : BagOk (qs ++ [q]) := by
  refine ⟨?_, ?_, ?_⟩
  · rw [List.pairwise_append]
    refine ⟨h.asc, List.pairwise_singleton _ _, fun p hp y hy => ?_⟩
    rw [List.mem_singleton.mp hy]
    unfold okDue at ho
    rw [Bool.and_eq_true] at ho
    have ho := ho.2
    cases hg : qs.getLast? with
    | none => rw [List.getLast?_eq_none_iff.mp hg] at hp; cases hp
    | some z =>
      rw [hg] at ho
      have hz : ltS z.1 q.1 := of_decide_eq_true ho
      obtain ⟨ys, rfl⟩ := List.getLast?_eq_some_iff.mp hg
      rcases List.mem_append.mp hp with hp | hp
      · have := (List.pairwise_append.mp h.asc).2.2 p hp z (List.mem_singleton.mpr rfl)
        exact ltS_trans this hz
      · rw [List.mem_singleton.mp hp]; exact hz
  · intro p hp
    rcases List.mem_append.mp hp with hp | hp
    · exact h.nam p hp
    · rw [List.mem_singleton.mp hp]; exact hn
  · intro p hp
    rcases List.mem_append.mp hp with hp | hp
    · exact h.pos p hp
    · rw [List.mem_singleton.mp hp]; exact h1
theorem okDue_len {qs : Bag} {q : Str × Int} (h : okDue qs q = true) : 1 ≤ q.1.length ∧ q.1.length ≤ 8 := by
  unfold okDue at h
  simp only [Bool.and_eq_true, decide_eq_true_eq] at h
  exact h.1
theorem dueR_rows : ∀ (m : Nat) (qs : Bag) (r : List Int) (ps' : Bag) (r2 : List Int), B8 r → dueR qs m r = some (ps', r2) → BagOk qs → ∃ ps, ps' = qs ++ ps ∧ rowsR m r = some (ps, r2) ∧ BagOk (qs ++ ps) ∧ ps.length = m
  | 0, qs, r, ps', r2, _, h, hb => by
    cases h
    exact ⟨[], (List.append_nil _).symm, rfl, by rw [List.append_nil]; exact hb, rfl⟩
  | m + 1, qs, r, ps', r2, h8, h, hb => by
    have h : (match pairR r with
      | none => none
      | some (q, r1) => if okDue qs q = true then dueR (qs ++ [q]) m r1 else none) = some (ps', r2) := h
    cases hp : pairR r with
    | none => rw [hp] at h; cases h
    | some z =>
      obtain ⟨q, r1⟩ := z
      rw [hp] at h
      dsimp only at h
      by_cases ho : okDue qs q = true
      · rw [if_pos ho] at h
        obtain ⟨k1, k2, k3⟩ := pairR_ok h8 hp (okDue_len ho)
        obtain ⟨ps, e1, e2, e3, e4⟩ := dueR_rows m _ r1 ps' r2 k3 h (bag_snocD hb k1 k2 ho)
        refine ⟨q :: ps, by rw [e1, List.append_assoc]; rfl, ?_, by rw [List.append_assoc] at e3; exact e3, by rw [List.length_cons, e4]⟩
        rw [rowsR_some hp, e2]
      · rw [if_neg ho] at h; cases h
theorem rows_dueR : ∀ (m : Nat) (qs : Bag) (r : List Int) (ps : Bag) (r2 : List Int), rowsR m r = some (ps, r2) → BagOk (qs ++ ps) → dueR qs m r = some (qs ++ ps, r2) ∧ ps.length = m
  | 0, qs, r, ps, r2, h, hb => by
    cases h
    exact ⟨by rw [List.append_nil]; rfl, rfl⟩
  | m + 1, qs, r, ps, r2, h, hb => by
    cases hp : pairR r with
    | none => rw [rowsR_none hp] at h; cases h
    | some z =>
      obtain ⟨q, r1⟩ := z
      rw [rowsR_some hp] at h
      cases hr : rowsR m r1 with
      | none => rw [hr] at h; cases h
      | some y =>
        obtain ⟨ps1, r3⟩ := y
        rw [hr] at h
        cases h
        have hb' : BagOk ((qs ++ [q]) ++ ps1) := by rw [List.append_assoc]; exact hb
        obtain ⟨e1, e2⟩ := rows_dueR m (qs ++ [q]) r1 ps1 r2 hr hb'
        refine ⟨?_, by rw [List.length_cons, e2]⟩
        show (match pairR r with
          | none => none
          | some (q, r1) => if okDue qs q = true then dueR (qs ++ [q]) m r1 else none) = _
        rw [hp]
        dsimp only
        have hn := isName_len (hb.nam q (List.mem_append_right _ List.mem_cons_self))
        have ho : okDue qs q = true := by
          unfold okDue
          rw [decide_eq_true (show 1 ≤ q.1.length from hn.1), decide_eq_true (show q.1.length ≤ 8 by omega), Bool.true_and, Bool.true_and]
          cases hg : qs.getLast? with
          | none => rfl
          | some z =>
            obtain ⟨ys, rfl⟩ := List.getLast?_eq_some_iff.mp hg
            exact decide_eq_true ((List.pairwise_append.mp hb.asc).2.2 z (List.mem_append_right _ (List.mem_singleton.mpr rfl)) q List.mem_cons_self)
        rw [if_pos ho, e1, List.append_assoc]
        rfl
def dueK : List Int → Option (Int × Bag)
  | c :: n :: r => if 1 ≤ c ∧ c ≤ 8 ∧ n ≤ c then match dueR [] n.toNat r with
    | some (ps, []) => some (c, ps)
    | _ => none else none
  | _ => none
theorem bag_nil_ok : BagOk [] := ⟨.nil, nofun, nofun⟩
theorem ver_bagT {c : Int} {ps : Bag} (h : BagOk ps) (hl : (ps.length : Int) ≤ c) : verOk (badF c) (bagD ps) = true := by
  show (firstBad _ _).isNone = true
  rw [bag_good h (by exact hl)]
  rfl
theorem due_unpack {ks : List Int} (h8 : B8 ks) : dueK ks = unpackK ks := by
  rcases ks with _ | ⟨c, _ | ⟨n, r⟩⟩
  · rfl
  · rfl
  have hr : B8 r := fun n hn => h8 n (List.mem_cons_of_mem _ (List.mem_cons_of_mem _ hn))
  have hn := h8 n (List.mem_cons_of_mem _ List.mem_cons_self)
  rw [unpack_rows]
  show (if 1 ≤ c ∧ c ≤ 8 ∧ n ≤ c then match dueR [] n.toNat r with
    | some (ps, []) => some (c, ps)
    | _ => none else none) = _
  by_cases hc : 1 ≤ c ∧ c ≤ 8
  · rw [if_pos hc]
    by_cases hnc : n ≤ c
    · rw [if_pos ⟨hc.1, hc.2, hnc⟩]
      cases hd : dueR [] n.toNat r with
      | some z =>
        obtain ⟨ps', r2⟩ := z
        obtain ⟨ps, e1, e2, e3, e4⟩ := dueR_rows _ _ _ _ _ hr hd bag_nil_ok
        rw [List.nil_append] at e1 e3
        subst e1
        rw [e2]
        cases r2 with
        | nil =>
          dsimp only
          rw [if_pos (ver_bagT e3 (by omega))]
        | cons x t => rfl
      | none =>
        cases hw : rowsR n.toNat r with
        | none => rfl
        | some z =>
          obtain ⟨ps, r2⟩ := z
          cases r2 with
          | cons x t => rfl
          | nil =>
            dsimp only
            by_cases hv : verOk (badF c) (bagD ps) = true
            · have := (rows_dueR _ [] _ _ _ hw (ver_bag hv).1).1
              rw [hd] at this
              cases this
            · rw [if_neg hv]
    · rw [if_neg (fun z => hnc z.2.2)]
      cases hw : rowsR n.toNat r with
      | none => rfl
      | some z =>
        obtain ⟨ps, r2⟩ := z
        cases r2 with
        | cons x t => rfl
        | nil =>
          dsimp only
          by_cases hv : verOk (badF c) (bagD ps) = true
          · obtain ⟨k1, k2⟩ := ver_bag hv
            have e := (rows_dueR _ [] _ _ _ hw k1).2
            exfalso
            rcases k2 with k2 | k2
            · omega
            · rw [k2] at e
              have : n.toNat = 0 := e.symm
              omega
          · rw [if_neg hv]
  · rw [if_neg hc, if_neg (fun z => hc ⟨z.1, z.2.1⟩)]
def NoSumY (K : PySem.W.Frag) (H : Hp) (v : V) : Prop := NoSum K H v ∨ ∃ z, v = .byt z
def NoByt (K : PySem.W.Frag) (H : Hp) (v : V) : Prop := ∃ t, TyX K H v t ∧ PySem.W.kitOne K t (.type "bytes") = some false
theorem byt_byt {K : PySem.W.Frag} : PySem.W.kitOne K (.type "bytes") (.type "bytes") = some true := kit_ty (by decide +kernel)
theorem NoSum.byt {K : PySem.W.Frag} {H : Hp} {v : V} (h : NoSum K H v) : NoByt K H v := by
  obtain ⟨T, hT, ht⟩ := h.ty
  refine ⟨_, ht, kit_ty ?_⟩
  simp only [List.mem_cons, List.not_mem_nil, or_false] at hT
  rcases hT with rfl | rfl | rfl | rfl | rfl | rfl | rfl <;> decide +kernel
theorem sumO_byt {K : PySem.W.Frag} {mg : Str → Option Value} {fs : List Str} {H : Hp} {v : V} {c : Int} {ps : Bag} (cl : ClsF K mg "Summary" fs) (h : SumO K H v c ps) : NoByt K H v := by
  obtain ⟨a, dx, b, rfl, ha, hd⟩ := h
  exact ⟨_, .base (.ins ha cl.cls cl.i1 cl.i2 cl.i3 cl.i4), cl.bby⟩
section
variable {K : PySem.W.Frag} {σ : L2.St} {H : Hp} {ta tb te : TE} {ms ns : List Int}
def intsD (ns : List Int) : PyData := .list (ns.map .int)
theorem dxs_ints : ∀ {xs : List V} {ns : List Int} {H : Hp}, DxAll K H xs (ns.map .int) → xs = ns.map V.int
  | [], [], _, _ => rfl
  | x :: xs, n :: ns, _, h => by
    rw [List.map_cons] at h
    cases h with
    | cons h1 h2 =>
      cases dx_int_inv h1
      rw [dxs_ints h2]; rfl
  | [], n :: ns, _, h => by cases h
  | x :: xs, [], _, h => by cases h
theorem ints_dxs : ∀ {ns : List Int} {H : Hp}, DxAll K H (ns.map V.int) (ns.map .int)
  | [], _ => .nil
  | n :: ns, _ => .cons (.int n) ints_dxs
theorem ints_inv {H : Hp} {v : V} {ns : List Int} (h : Dx K H v (intsD ns)) : ∃ a, v = .ref a ∧ SqL K H a (ns.map V.int) := by
  obtain ⟨a, xs, rfl, hs, hx⟩ := dx_lst_inv h
  rw [dxs_ints hx] at hs
  exact ⟨a, rfl, hs⟩
theorem cutV_ints {lo hi : Option Int} : cutV (ns.map V.int) lo hi = (cutL ns lo hi).map V.int := by
  unfold cutV cutL
  first
    | (rw [List.map_take, List.map_drop, List.length_map]; rfl)
    | simp [List.map_take, List.map_drop]
def GivesI (K : PySem.W.Frag) (σ : L2.St) (H : Hp) (te : TE) (ns : List Int) : Prop := ∀ H0, Same H H0 → ∀ Q : VK, (∀ l H', Same H0 H' → H' l = some (.lst (ns.map V.int)) → Q (.ref l) H') → te σ H0 Q
theorem gi_var {i : Nat} {l : Addr} (e : σ[i]? = some (some (.ref l))) (h : H l = some (.lst (ns.map V.int))) : GivesI K σ H (tVar i) ns := fun H0 s Q k => ⟨_, e, k _ _ (Same.refl _) (s _ _ h)⟩
theorem gi_one {n : Int} (h : GivesD K σ H te (.int n)) : GivesI K σ H (tLst (tCons te tNil)) [n] := fun H0 s Q k => gl_lst (K := K) (ga_cons h ga_nil) rfl H0 s _ fun l xs H' s' hl hx => k l H' s' (by rw [hl, dxs_ints (ns := [n]) hx])
theorem gi_lit {tr : TA} (h : GivesA K σ H tr (ns.map .int)) (hl : (ns.map PyData.int).length.ble 100000 = true) : GivesI K σ H (tLst tr) ns := fun H0 s Q k => gl_lst (K := K) h hl H0 s _ fun l xs H' s' hl hx => k l H' s' (by rw [hl, dxs_ints hx])
theorem gi_cat (h1 : GivesI K σ H ta ms) (h2 : GivesI K σ H tb ns) (hz : ms.length + ns.length ≤ 100000) : GivesI K σ H (tOp rCat ta tb) (ms ++ ns) := fun H0 s Q k => h1 H0 s _ fun l H1 s1 e1 => h2 H1 (s.trans s1) _ fun m H2 s2 e2 => w_catI (s2 _ _ e1) e2 hz fun p H3 s3 e3 => k p H3 ((s1.trans s2).trans s3) e3
theorem gi_rep {k : Nat} (h : GivesI K σ H ta ms) (hk : k ≤ 1000) (hz : ms.length * k ≤ 100000) : GivesI K σ H (tOp rRep ta (tC (.int (k : Nat)))) (List.replicate k ms).flatten := fun H0 s Q q => h H0 s _ fun l H1 s1 e1 => w_rep e1 ⟨by omega, by omega⟩ (by rw [List.length_map, Int.toNat_natCast]; exact hz) fun p hp => q p _ (s1.trans (same_new hp)) (by
  rw [upd_same, Int.toNat_natCast]
  have : (List.replicate k (ms.map V.int)).flatten = ((List.replicate k ms).flatten).map V.int := by
    rw [List.map_flatten, List.map_replicate]
  rw [this])
theorem gi_sl {lo hi : Option Int} {tl th : TO} {i : Nat} {a : Addr} (e : σ[i]? = some (some (.ref a))) (h : SqL K H a (ns.map V.int)) (hl : ∀ H0, Same H H0 → ∀ Q : Option Int → Hp → Prop, (∀ H', Same H0 H' → Q lo H') → tl σ H0 Q) (hh : ∀ H0, Same H H0 → ∀ Q : Option Int → Hp → Prop, (∀ H', Same H0 H' → Q hi H') → th σ H0 Q) : GivesI K σ H (L2.tSl (rSlL K) (tVar i) tl th) (cutL ns lo hi) := fun H0 s Q k =>
  ⟨_, e, hl H0 s _ fun H1 s1 => hh H1 (s.trans s1) _ fun H2 s2 => w_slL (((s.trans s1).trans s2).seq h) fun p hp => k p _ ((s1.trans s2).trans (same_new hp)) (by rw [upd_same, cutV_ints])⟩
theorem sl_no : ∀ H0, Same H H0 → ∀ Q : Option Int → Hp → Prop, (∀ H', Same H0 H' → Q none H') → tNoPart σ H0 Q := fun H0 _ Q k => k H0 (Same.refl _)
theorem sl_at {n : Int} (h : GivesD K σ H te (.int n)) : ∀ H0, Same H H0 → ∀ Q : Option Int → Hp → Prop, (∀ H', Same H0 H' → Q (some n) H') → tPart te σ H0 Q := fun H0 s Q k => h H0 s _ fun v H1 s1 d1 => by
  cases dx_int_inv d1
  exact ⟨n, rfl, k _ s1⟩
theorem gi_d (h : GivesI K σ H te ns) : GivesD K σ H te (intsD ns) := fun H0 s Q k => h H0 s _ fun l H1 s1 e1 => k _ _ s1 (.lst (SqL.of e1) ints_dxs)
theorem B8.app (h1 : B8 ms) (h2 : B8 ns) : B8 (ms ++ ns) := fun n hn => (List.mem_append.mp hn).elim (h1 n) (h2 n)
theorem B8.one {n : Int} (h0 : 0 ≤ n) (h1 : n < 256) : B8 [n] := fun m hm => by rw [List.mem_singleton.mp hm]; exact ⟨h0, h1⟩
end
def hd0 (r : List Int) : Int := r.headD 0
theorem drop_hd {ns : List Int} {i : Nat} : ns.drop i = [] ∨ ∃ t, ns.drop i = hd0 (ns.drop i) :: t ∧ t = ns.drop (i + 1) := by
  cases h : ns.drop i with
  | nil => exact .inl rfl
  | cons k t =>
    refine .inr ⟨t, rfl, ?_⟩
    have := congrArg List.tail h
    rw [List.tail_drop] at this
    exact this.symm
def turnK (ns : List Int) (i : Nat) : Nat := (hd0 (ns.drop i)).toNat
def turnA (ns : List Int) (i : Nat) : List Int := (ns.drop (i + 1)).take (turnK ns i)
def turnM (ns : List Int) (i : Nat) : Nat := (hd0 (ns.drop (i + 1 + turnK ns i))).toNat
def turnB (ns : List Int) (i : Nat) : List Int := (ns.drop (i + 2 + turnK ns i)).take (turnM ns i)
theorem hd0_nn {ns : List Int} {i : Nat} (h8 : B8 ns) : 0 ≤ hd0 (ns.drop i) ∧ hd0 (ns.drop i) < 256 := by
  rcases drop_hd (ns := ns) (i := i) with h | ⟨t, h, _⟩
  · rw [h]; exact ⟨by decide, by decide⟩
  · exact h8 _ (List.mem_of_mem_drop (by rw [h]; exact List.mem_cons_self) : hd0 (ns.drop i) ∈ ns)
theorem turn_ok {ns : List Int} {i : Nat} (h1 : turnK ns i ≠ 0) (h3 : turnM ns i ≠ 0) (h4 : turnK ns i ≤ (turnA ns i).length) (h5 : turnM ns i ≤ (turnB ns i).length) (h6 : (turnB ns i).head? ≠ some 0) :
    pairR (ns.drop i) = (if (turnA ns i).all letB = false then none else some ((txtB (turnA ns i), valB (turnB ns i)), ns.drop (i + 2 + turnK ns i + turnM ns i))) ∧ i + 2 + turnK ns i + turnM ns i ≤ ns.length := by
  rcases drop_hd (ns := ns) (i := i) with h | ⟨t, h, ht⟩
  · exact absurd (by unfold turnK; rw [h]; rfl) h1
  have ha : (turnA ns i).length = min (turnK ns i) (ns.drop (i + 1)).length := List.length_take
  rcases drop_hd (ns := ns) (i := i + 1 + turnK ns i) with g | ⟨t2, g, gt⟩
  · exact absurd (by unfold turnM; rw [g]; rfl) h3
  have hb : (turnB ns i).length = min (turnM ns i) (ns.drop (i + 2 + turnK ns i)).length := List.length_take
  have e1 : blockR (ns.drop i) = some (turnA ns i, ns.drop (i + 1 + turnK ns i)) := by
    rw [h]
    show (if (hd0 (ns.drop i)).toNat ≤ t.length then some (t.take (hd0 (ns.drop i)).toNat, t.drop (hd0 (ns.drop i)).toNat) else none) = _
    rw [ht, if_pos (show (hd0 (ns.drop i)).toNat ≤ (ns.drop (i + 1)).length by have : turnK ns i = (hd0 (ns.drop i)).toNat := rfl; omega), List.drop_drop]
    rfl
  have e2 : blockR (ns.drop (i + 1 + turnK ns i)) = some (turnB ns i, ns.drop (i + 2 + turnK ns i + turnM ns i)) := by
    rw [g]
    show (if (hd0 (ns.drop (i + 1 + turnK ns i))).toNat ≤ t2.length then some (t2.take (hd0 (ns.drop (i + 1 + turnK ns i))).toNat, t2.drop (hd0 (ns.drop (i + 1 + turnK ns i))).toNat) else none) = _
    have ei : i + 1 + turnK ns i + 1 = i + 2 + turnK ns i := by omega
    rw [gt, ei, if_pos (show (hd0 (ns.drop (i + 1 + turnK ns i))).toNat ≤ (ns.drop (i + 2 + turnK ns i)).length by have : turnM ns i = (hd0 (ns.drop (i + 1 + turnK ns i))).toNat := rfl; omega), List.drop_drop]
    rfl
  have hbn : turnB ns i ≠ [] := fun z => by
    rw [z] at h5
    exact h3 (Nat.le_zero.mp h5)
  refine ⟨?_, ?_⟩
  · unfold pairR
    rw [e1]
    dsimp only
    rw [e2]
    dsimp only
    by_cases hl : (turnA ns i).all letB = false
    · rw [if_pos (.inr (.inr hl)), if_pos hl]
    · rw [if_neg (fun z => z.elim hbn fun z => z.elim h6 hl), if_neg hl]
  · rw [List.length_drop] at hb
    omega
theorem turn_bad {ns : List Int} {i : Nat} (h : turnK ns i = 0 ∨ 9 ≤ turnK ns i ∨ turnM ns i = 0 ∨ (turnA ns i).length < turnK ns i ∨ (turnB ns i).length < turnM ns i ∨ (turnB ns i).head? = some 0) (qs : Bag) (m : Nat) : dueR qs (m + 1) (ns.drop i) = none := by
  show (match pairR (ns.drop i) with
    | none => none
    | some (q, r1) => if okDue qs q = true then dueR (qs ++ [q]) m r1 else none) = none
  cases hp : pairR (ns.drop i) with
  | none => rfl
  | some z =>
    obtain ⟨q, r1⟩ := z
    dsimp only
    refine if_neg fun ho => ?_
    have hl := okDue_len ho
    obtain ⟨a, ra, b, ha, hb, b1, b2, b3, rfl⟩ := pairR_inv hp
    rcases drop_hd (ns := ns) (i := i) with h0 | ⟨t, h0, ht⟩
    · rw [h0] at ha; cases ha
    rw [h0] at ha
    have ha : (if (hd0 (ns.drop i)).toNat ≤ t.length then some (t.take (hd0 (ns.drop i)).toNat, t.drop (hd0 (ns.drop i)).toNat) else none) = some (a, ra) := ha
    by_cases z : (hd0 (ns.drop i)).toNat ≤ t.length
    · rw [if_pos z] at ha
      cases ha
      have ea : t.take (hd0 (ns.drop i)).toNat = turnA ns i := by rw [ht]; rfl
      have er : t.drop (hd0 (ns.drop i)).toNat = ns.drop (i + 1 + turnK ns i) := by rw [ht, List.drop_drop]; rfl
      rw [er] at hb
      rw [ea] at hl
      have hl : 1 ≤ (txtB (turnA ns i)).length ∧ (txtB (turnA ns i)).length ≤ 8 := hl
      rw [txtB_len] at hl
      have hA : (turnA ns i).length = turnK ns i := by
        rw [← ea, List.length_take]
        exact Nat.min_eq_left z
      rcases drop_hd (ns := ns) (i := i + 1 + turnK ns i) with g0 | ⟨t2, g0, gt⟩
      · rw [g0] at hb; cases hb
      rw [g0] at hb
      have hb : (if (hd0 (ns.drop (i + 1 + turnK ns i))).toNat ≤ t2.length then some (t2.take (hd0 (ns.drop (i + 1 + turnK ns i))).toNat, t2.drop (hd0 (ns.drop (i + 1 + turnK ns i))).toNat) else none) = some (b, r1) := hb
      by_cases z2 : (hd0 (ns.drop (i + 1 + turnK ns i))).toNat ≤ t2.length
      · rw [if_pos z2] at hb
        cases hb
        have ei : i + 1 + turnK ns i + 1 = i + 2 + turnK ns i := by omega
        have eb : t2.take (hd0 (ns.drop (i + 1 + turnK ns i))).toNat = turnB ns i := by rw [gt, ei]; rfl
        rw [eb] at b1 b2
        have hB : (turnB ns i).length = turnM ns i := by
          rw [← eb, List.length_take]
          exact Nat.min_eq_left z2
        rcases h with h | h | h | h | h | h
        · omega
        · omega
        · rw [h] at hB
          exact b1 (List.eq_nil_of_length_eq_zero hB)
        · omega
        · omega
        · exact b2 h
      · rw [if_neg z2] at hb; cases hb
    · rw [if_neg z] at ha; cases ha
theorem dueR_step {qs : Bag} {m : Nat} {r r1 : List Int} {q : Str × Int} (h : pairR r = some (q, r1)) : dueR qs (m + 1) r = if okDue qs q = true then dueR (qs ++ [q]) m r1 else none := by
  show (match pairR r with
    | none => none
    | some (q, r1) => if okDue qs q = true then dueR (qs ++ [q]) m r1 else none) = _
  rw [h]
theorem dueR_none {qs : Bag} {m : Nat} {r : List Int} (h : pairR r = none) : dueR qs (m + 1) r = none := by
  show (match pairR r with
    | none => none
    | some (q, r1) => if okDue qs q = true then dueR (qs ++ [q]) m r1 else none) = _
  rw [h]
section
variable {K : PySem.W.Frag} {σ : L2.St} {H : Hp} {ta tb te : TE} {ms ns : List Int} {i j : Int}
theorem gd_addY (h1 : GivesD K σ H ta (.int i)) (h2 : GivesD K σ H tb (.int j)) : GivesD K σ H (tOp (rI0 fun i j => .int (i + j)) ta tb) (.int (i + j)) := fun H0 s Q k => h1 H0 s _ fun v H1 s1 d1 => h2 H1 (s.trans s1) _ fun w H2 s2 d2 => by
  cases dx_int_inv d1
  cases dx_int_inv d2
  exact ⟨i, j, rfl, rfl, k _ _ (s1.trans s2) (.int _)⟩
theorem gd_ix0 {n : Int} (h : GivesI K σ H te ms) (e : ms[0]? = some n) : GivesD K σ H (tOp (rIxL K) te (tC (.int 0))) (.int n) := fun H0 s Q k => h H0 s _ fun l H1 s1 e1 => w_ixL (SqL.of e1) (at_of' (j := 0) (by omega) (by rw [List.getElem?_map, e]; rfl)) (k _ _ s1 (.int _))
theorem gi_asg {g : TG} {u : TS} {De : Ends} (h : GivesI K σ H te ns) (k : ∀ l H', Same H H' → H' l = some (.lst (ns.map V.int)) → g (.ref l) σ H' (u De)) : tSeq (tAsg te g) u De σ H := h H (Same.refl _) _ k
theorem gd_asgI {n : Int} {g : TG} {u : TS} {De : Ends} (h : GivesD K σ H te (.int n)) (k : ∀ H', Same H H' → g (.int n) σ H' (u De)) : tSeq (tAsg te g) u De σ H := h H (Same.refl _) _ fun v H' s d => by
  cases dx_int_inv d
  exact k H' s
end
section
variable {ns : List Int} {i : Nat}
theorem turn_s (h8 : B8 ns) : hd0 (ns.drop i) = ((turnK ns i : Nat) : Int) := (Int.toNat_of_nonneg (hd0_nn h8).1).symm
theorem turn_m (h8 : B8 ns) : hd0 (ns.drop (i + 1 + turnK ns i)) = ((turnM ns i : Nat) : Int) := (Int.toNat_of_nonneg (hd0_nn h8).1).symm
theorem hd_at {a : Nat} {lo hi : Int} (e1 : lo = ((a : Nat) : Int)) (e2 : hi = ((a + 1 : Nat) : Int)) : (cutL ns (some lo) (some hi) ++ [0])[0]? = some (hd0 (ns.drop a)) := by
  rw [e1, e2, cutL_ab, Nat.add_sub_cancel_left]
  cases ns.drop a with
  | nil => rfl
  | cons k t => rfl
theorem cut_ab {a b : Nat} {lo hi : Int} (e1 : lo = ((a : Nat) : Int)) (e2 : hi = ((a + b : Nat) : Int)) : cutL ns (some lo) (some hi) = (ns.drop a).take b := by
  rw [e1, e2, cutL_ab, Nat.add_sub_cancel_left]
end
theorem at_lastY {α : Type} {xs : List α} {v : α} {n : Nat} (hl : xs.length = n + 1) (h : xs[n]? = some v) : atI xs (-1) = some v := by
  have e : ixN xs.length (-1) = some n := by
    unfold ixN
    rw [if_neg (by decide), hl, if_pos (by omega)]
    congr 1
    omega
  unfold atI
  rw [e]
  exact h
theorem not_let {a : List Int} {k : Int} (hk : k ∈ a) (h : letB k = false) : a.all letB = false := List.all_eq_false.mpr ⟨k, hk, by rw [h]; decide⟩
section
variable {K : PySem.W.Frag} {σ : L2.St} {H : Hp} {ta tb te : TE}
theorem gd_ixV {ds : List PyData} {i m : Nat} {x : Int} (h : GivesL K σ H te ds) (e : σ[i]? = some (some (.int x))) (hx : x = (m : Nat)) (hm : m < ds.length) : GivesD K σ H (tOp (rIxL K) te (tVar i)) (ds.getD m .none) := fun H0 s Q k => h H0 s _ fun l xs H1 s1 hl hd => ⟨_, e, by
  have hxl := dxs_len hd
  have hv : xs[m]? = some (xs[m]'(by omega)) := List.getElem?_eq_getElem (by omega)
  obtain ⟨d, e1, h1⟩ := dxs_get hd hv
  refine w_ixL (SqL.of hl) (at_of' (j := m) hx hv) (k _ _ s1 ?_)
  rw [List.getD_eq_getElem?_getD, e1]
  exact h1⟩
def chgs (l r : List Int) (n : Int) : List (List Int) := [l ++ cutL r (some 1) none, (l ++ [n]) ++ r, (l ++ [n]) ++ cutL r (some 1) none, (l ++ cutL r none (some 1)) ++ r, ((l ++ cutL r (some 1) (some 2)) ++ cutL r none (some 1)) ++ cutL r (some 2) none]
theorem chgs_ok {l r : List Int} {n : Int} (h1 : B8 l) (h2 : B8 r) (h0 : 0 ≤ n) (hn : n < 256) : ∀ x ∈ chgs l r n, B8 x ∧ x.length ≤ l.length + r.length + 1 := fun x hx => by
  have c1 : cutL r (some 1) none = r.drop 1 := cutL_lo (k := 1)
  have c2 : cutL r (some 2) none = r.drop 2 := cutL_lo (k := 2)
  have c3 : cutL r none (some 1) = r.take 1 := cutL_hi (k := 1)
  have c4 : cutL r (some 1) (some 2) = (r.drop 1).take 1 := cutL_ab (a := 1) (b := 2)
  have hd : ∀ k, B8 (r.drop k) := fun k y hy => h2 y (List.mem_of_mem_drop hy)
  have ht : ∀ (a : List Int) k, B8 a → B8 (a.take k) := fun a k h y hy => h y (List.mem_of_mem_take hy)
  unfold chgs at hx
  rw [c1, c2, c3, c4] at hx
  simp only [List.mem_cons, List.not_mem_nil, or_false] at hx
  have h1n : B8 (l ++ [n]) := h1.app (B8.one h0 hn)
  rcases hx with rfl | rfl | rfl | rfl | rfl
  · exact ⟨h1.app (hd 1), by rw [List.length_append, List.length_drop]; omega⟩
  · exact ⟨h1n.app h2, by rw [List.length_append, List.length_append, List.length_singleton]; omega⟩
  · exact ⟨h1n.app (hd 1), by rw [List.length_append, List.length_append, List.length_singleton, List.length_drop]; omega⟩
  · exact ⟨(h1.app (ht _ _ h2)).app h2, by rw [List.length_append, List.length_append, List.length_take]; omega⟩
  · exact ⟨((h1.app (ht _ _ (hd 1))).app (ht _ _ h2)).app (hd 2), by
      rw [List.length_append, List.length_append, List.length_append, List.length_take, List.length_take, List.length_drop, List.length_drop]
      omega⟩
end
theorem getD_ints {xs : List (List Int)} {m : Nat} (h : m < xs.length) : (xs.map intsD).getD m .none = intsD xs[m] := by
  rw [List.getD_eq_getElem?_getD, List.getElem?_map, List.getElem?_eq_getElem h]
  rfl
theorem gd_asgE {K : PySem.W.Frag} {σ : L2.St} {H : Hp} {te : TE} {d : PyData} {g : TG} {De : Ends} (h : GivesD K σ H te d) (k : ∀ v H', Same H H' → Dx K H' v d → g v σ H' De.nx) : tAsg te g De σ H := h H (Same.refl _) _ k
theorem pow_mono {k l : Nat} (h : k ≤ l) : (256 : Int) ^ k ≤ (256 : Int) ^ l := by
  rw [p256, p256]
  exact Int.ofNat_le.mpr (Nat.pow_le_pow_right (by decide) h)
theorem val_lt : ∀ (b : List Int) (n : Int) (k : Nat), B8 b → n < (256 : Int) ^ k → b.foldl (fun x y => x * 256 + y) n < (256 : Int) ^ (k + b.length)
  | [], n, k, _, h => h
  | y :: b, n, k, h8, h => by
    have hy := h8 y List.mem_cons_self
    have e : k + (y :: b).length = (k + 1) + b.length := by rw [List.length_cons]; omega
    rw [e]
    refine val_lt b _ (k + 1) (fun z hz => h8 z (List.mem_cons_of_mem _ hz)) ?_
    rw [Int.pow_succ]
    show n * 256 + y < _
    omega
theorem valB_lt {b : List Int} (h8 : B8 b) : valB b < (256 : Int) ^ b.length := by
  have := val_lt b 0 0 h8 (by decide)
  rw [Nat.zero_add] at this
  exact this
theorem rows_lt : ∀ (m : Nat) (r : List Int) (ps : Bag) (r2 : List Int), B8 r → rowsR m r = some (ps, r2) → ∀ p ∈ ps, p.2 < (256 : Int) ^ r.length
  | 0, r, ps, r2, _, h => by cases h; nofun
  | m + 1, r, ps, r2, h8, h => by
    cases hp : pairR r with
    | none => rw [rowsR_none hp] at h; cases h
    | some z =>
      obtain ⟨q, r1⟩ := z
      rw [rowsR_some hp] at h
      obtain ⟨a, ra, b, ha, hb, b1, b2, b3, rfl⟩ := pairR_inv hp
      have k1 := blockR_ok ha h8
      have k2 := blockR_ok hb k1.2.2.2.1
      cases hr : rowsR m r1 with
      | none => rw [hr] at h; cases h
      | some y =>
        obtain ⟨ps1, r3⟩ := y
        rw [hr] at h
        cases h
        intro p hp
        rcases List.mem_cons.mp hp with rfl | hp
        · exact Int.lt_of_lt_of_le (valB_lt k2.2.2.1) (pow_mono (by omega))
        · exact Int.lt_of_lt_of_le (rows_lt m r1 ps1 r2 k2.2.2.2.1 hr p hp) (pow_mono (by omega))
def OkL (ns : List Int) : Prop := B8 ns ∧ ns.length ≤ 3000 ∧ ∀ c ps, unpackK ns = some (c, ps) → SumV c ps ∧ ∀ p ∈ ps, p.2 < (256 : Int) ^ 239
theorem unpack_sum {ns : List Int} {c : Int} {ps : Bag} (h : unpackK ns = some (c, ps)) (h8 : B8 ns) : SumV c ps ∧ ∀ p ∈ ps, p.2 < (256 : Int) ^ ns.length := by
  rcases ns with _ | ⟨c', _ | ⟨n, r⟩⟩
  · cases h
  · cases h
  rw [unpack_rows] at h
  by_cases hc : 1 ≤ c' ∧ c' ≤ 8
  · rw [if_pos hc] at h
    have hr8 : B8 r := fun n hn => h8 n (List.mem_cons_of_mem _ (List.mem_cons_of_mem _ hn))
    cases hw : rowsR n.toNat r with
    | none => rw [hw] at h; cases h
    | some z =>
      obtain ⟨qs, r2⟩ := z
      rw [hw] at h
      cases r2 with
      | cons x t => cases h
      | nil =>
        dsimp only at h
        by_cases hv : verOk (badF c') (bagD qs) = true
        · rw [if_pos hv] at h
          cases h
          obtain ⟨k1, k2⟩ := ver_bag hv
          refine ⟨⟨hc.1, hc.2, k1, ?_⟩, fun p hp => Int.lt_of_lt_of_le (rows_lt _ _ _ _ hr8 hw p hp) (pow_mono (by rw [List.length_cons, List.length_cons]; omega))⟩
          rcases k2 with k2 | k2
          · exact k2
          · rw [k2]; have := hc.1; show ((0 : Nat) : Int) ≤ _; omega
        · rw [if_neg hv] at h; cases h
  · rw [if_neg hc] at h; cases h
theorem okL_short {ns : List Int} (h8 : B8 ns) (hl : ns.length ≤ 239) : OkL ns := ⟨h8, by omega, fun c ps h => by
  obtain ⟨k1, k2⟩ := unpack_sum h h8
  exact ⟨k1, fun p hp => Int.lt_of_lt_of_le (k2 p hp) (pow_mono hl)⟩⟩
def two19 : List Int := [1, 97, 1, 1, 1, 98, 1, 1]
def hb1 : List (List Int) := [[], [0], [1], [8], [9], [0, 0], [1, 0], [8, 0], [9, 0], [255, 0], [1, 1], [1, 0, 0]]
def hb2 : List (List Int) := [[1, 2], [1, 1, 1, 97, 1, 1]]
def hb3 : List (List Int) := [[1, 1, 1, 97, 1, 0], [1, 1, 1, 97, 0], [1, 1, 1, 97], [1, 1, 1], [1, 1, 0, 1, 1]]
def hb4 : List (List Int) := [[1, 1, 1, 96, 1, 1]]
def hb5 : List (List Int) := [[1, 1, 1, 122, 1, 1], [1, 1, 1, 123, 1, 1], [1, 1, 1, 65, 1, 1]]
def hb6 : List (List Int) := [[1, 1, 1, 200, 1, 1], [1, 1, 1, 97, 2, 1, 0]]
def hb7 : List (List Int) := [[1, 1, 1, 97, 2, 0, 1], [1, 1, 1, 97, 2, 1], [1, 1, 1, 97, 1, 1, 1]]
def hb8 : List (List Int) := [[1, 1, 2, 97, 1, 1], [1, 1, 2, 97, 98, 1, 255]]
def hb9 : List (List Int) := [[2, 2] ++ two19, [1, 2] ++ two19, [2, 1] ++ two19, ([2, 2] ++ cutL two19 (some 4) none) ++ cutL two19 none (some 4)]
def hb10 : List (List Int) := [[2, 2] ++ (List.replicate 2 (cutL two19 none (some 4))).flatten, [3, 3] ++ two19]
def hb11 : List (List Int) := [[2, 2] ++ cutL two19 none (some (-1)), ([2, 2] ++ two19) ++ [0], ([1, 1, 8] ++ (List.replicate 8 [97]).flatten) ++ [1, 1]]
def hb12 : List (List Int) := [([1, 1, 9] ++ (List.replicate 9 [97]).flatten) ++ [1, 1]]
def hb13 : List (List Int) := [[1, 1, 1, 97, 200] ++ (List.replicate 200 [1]).flatten, [1, 1, 1, 97, 200] ++ (List.replicate 199 [1]).flatten]
def hb14 : List (List Int) := [([1, 1, 255] ++ (List.replicate 255 [97]).flatten) ++ [1, 1]]
def hands : List (List Int) := ((((((((((((hb1 ++ hb2) ++ hb3) ++ hb4) ++ hb5) ++ hb6) ++ hb7) ++ hb8) ++ hb9) ++ hb10) ++ hb11) ++ hb12) ++ hb13) ++ hb14
def b8b (ns : List Int) : Bool := ns.all fun n => decide (0 ≤ n) && decide (n < 256)
theorem b8_of {ns : List Int} (h : b8b ns = true) : B8 ns := fun n hn => by
  have := List.all_eq_true.mp h n hn
  rw [Bool.and_eq_true, decide_eq_true_eq, decide_eq_true_eq] at this
  exact this
theorem hands_ok : ∀ x ∈ hands, OkL x := fun x hx => by
  have h1 : ∀ x ∈ hands, b8b x = true := by decide +kernel
  have h2 : ∀ x ∈ hands, x.length ≤ 239 ∨ (x.length ≤ 3000 ∧ (unpackK x).isNone = true) := by decide +kernel
  rcases h2 x hx with h | ⟨h3, h4⟩
  · exact okL_short (b8_of (h1 x hx)) h
  · refine ⟨b8_of (h1 x hx), h3, fun c ps e => ?_⟩
    rw [e] at h4
    cases h4
theorem log2_le2 (i : Int) (h0 : 0 ≤ i) (h1 : i < 256 ^ 239) : i.natAbs.log2 < 1920 := by
  refine Nat.lt_of_lt_of_le (PySem.Flt.log2_lt_of (by decide : 0 < 1912) ?_) (by decide)
  have e : (2 : Nat) ^ 1912 = 256 ^ 239 := by
    rw [show (256 : Nat) = 2 ^ 8 from rfl, ← Nat.pow_mul]
  rw [e]
  rw [p256] at h1
  omega
theorem bag_shows_big : ∀ ps : Bag, (∀ p ∈ ps, isName p.1 = true ∧ 0 ≤ p.2 ∧ p.2 < (256 : Int) ^ 239) → okDs (ps.map pairD) = true ∧ rbs (ps.map pairD) ≤ 2100 * ps.length ∧ PyData.depthAll (ps.map pairD) ≤ 1
  | [], _ => by simp [okDs, rbs, PyData.depthAll]
  | p :: r, h => by
    obtain ⟨i1, i2, i3⟩ := bag_shows_big r fun q hq => h q (List.mem_cons_of_mem _ hq)
    obtain ⟨h1, h2, h3⟩ := h p List.mem_cons_self
    have hl := (isName_len h1).2
    have e1 : okD (pairD p) = true := by
      show (okD (.str p.1) && (okD (.int p.2) && true)) = true
      rw [okD_name h1, show okD (.int p.2) = true from decide_eq_true (log2_le2 _ h2 h3)]; rfl
    have e2 : rb (pairD p) = (10 * p.1.length + 2 + 2 + (1921 + 2 + 0)) + 3 := rfl
    have e3 : (pairD p).depth = 1 := by simp [pairD, PyData.depth, PyData.depthAll]
    refine ⟨?_, ?_, ?_⟩
    · show (okD (pairD p) && okDs (r.map pairD)) = true
      rw [e1, i1]; rfl
    · show rb (pairD p) + 2 + rbs (r.map pairD) ≤ _
      rw [e2, List.length_cons]; omega
    · show max (pairD p).depth (PyData.depthAll (r.map pairD)) ≤ 1
      rw [e3]; omega
theorem sum_showsY {c : Int} {ps : Bag} (hv : SumV c ps) (hb : ∀ p ∈ ps, p.2 < (256 : Int) ^ 239) : Shows (.list [.int c, bagD ps]) := by
  obtain ⟨b1, b2, b3⟩ := bag_shows_big ps fun p hp => ⟨hv.ok.nam p hp, by have := hv.ok.pos p hp; omega, hb p hp⟩
  have c1 := hv.c1
  have c8 := hv.c8
  have hpl8 : (ps.length : Int) ≤ 8 := Int.le_trans hv.len hv.c8
  exact shows_l2 (decide_eq_true (log2_le c (by omega) (Int.le_trans c8 (by decide)))) b1 (by
    show 1921 + (rbs (ps.map pairD) + 3) ≤ _
    omega) (by show 0 ≤ 58; decide) (by show PyData.depthAll (ps.map pairD) + 1 ≤ 58; omega)
theorem fold_all {p : Nat → Prop} {f : UInt8 → Array Nat} (hf : ∀ c, ∀ x ∈ (f c).toList, p x) : ∀ (l : List UInt8) (a : Array Nat), (∀ x ∈ a.toList, p x) → ∀ x ∈ (l.foldl (fun acc c => acc ++ f c) a).toList, p x
  | [], a, h => h
  | c :: l, a, h => fold_all hf l _ fun x hx => by
    rw [Array.toList_append] at hx
    exact (List.mem_append.mp hx).elim (h x) (hf c x)
theorem shownB_asc {q : Nat} (hq : q = 39 ∨ q = 34) (c : Nat) (hc : c < 256) : ∀ x ∈ (TPY.shownB q c).toList, x < 128 := by
  have h : ∀ q ∈ [39, 34], ∀ c, c < 256 → (TPY.shownB q c).toList.all (fun x => decide (x < 128)) = true := by decide +kernel
  intro x hx
  have := List.all_eq_true.mp (h q (by rcases hq with rfl | rfl <;> decide) c hc) x hx
  exact of_decide_eq_true this
theorem lit_asc (ks : List Int) : ∀ x ∈ TL.tl (litB ks), x < 128 := by
  have hq : TPY.quoteB (byteArr ks) = 39 ∨ TPY.quoteB (byteArr ks) = 34 := by
    unfold TPY.quoteB
    split
    · exact .inr rfl
    · exact .inl rfl
  have hq128 : TPY.quoteB (byteArr ks) < 128 := by rcases hq with h | h <;> rw [h] <;> decide
  intro x hx
  have hx : x ∈ (litB ks).cps.toList := hx
  unfold litB at hx
  rw [TPY.literal_eq, ← Array.foldl_toList] at hx
  have hx : x ∈ (((byteArr ks).toList.foldl (fun acc c => acc ++ TPY.shownB (TPY.quoteB (byteArr ks)) c.toNat) #[98, TPY.quoteB (byteArr ks)]).push (TPY.quoteB (byteArr ks))).toList := hx
  rw [Array.toList_push] at hx
  rcases List.mem_append.mp hx with hx | hx
  · refine fold_all (p := fun x => x < 128) (f := fun c : UInt8 => TPY.shownB (TPY.quoteB (byteArr ks)) c.toNat) (fun c x hx => shownB_asc hq c.toNat c.toNat_lt x hx) _ _ (fun x hx => ?_) x hx
    rcases List.mem_cons.mp hx with rfl | hx
    · decide
    · rw [List.mem_singleton.mp hx]; exact hq128
  · rw [List.mem_singleton.mp hx]; exact hq128
theorem lit_ok {ks : List Int} {n : Nat} (h : 4 * ks.length + 3 ≤ n) : TxtOk n n (litB ks) := by
  have hl := lit_len ks
  exact ⟨by omega, DR.of_len (show (TL.tl (litB ks)).length ≤ n by
    have e : (TL.tl (litB ks)).length = (litB ks).length := by show (litB ks).cps.toList.length = (litB ks).cps.size; rw [Array.length_toList]
    omega), lit_asc ks⟩
theorem rows_len2 : ∀ {ps : Bag}, (∀ p ∈ ps, p.1.length ≤ 8 ∧ blen p.2 ≤ 13) → (ps.flatMap rowP).length ≤ 23 * ps.length
  | [], _ => Nat.le_refl _
  | p :: ps, h => by
    rw [List.flatMap_cons, List.length_append, List.length_cons, rowP_len]
    have h1 := h p List.mem_cons_self
    have h2 := rows_len2 fun q hq => h q (List.mem_cons_of_mem _ hq)
    omega
theorem packK_len2 {c : Int} {ps : Bag} (hv : SumV c ps) (hb : ∀ p ∈ ps, p.2 ≤ 10 ^ 30) : (packK c ps).length ≤ 186 := by
  have hr : (ps.flatMap rowP).length ≤ 23 * ps.length := rows_len2 fun p hp => by
    have h1 := isName_len (hv.ok.nam p hp)
    have h2 := hv.ok.pos p hp
    exact ⟨by omega, (blen_le (k := 13) (show 0 ≤ p.2 by omega)).mp (Int.lt_of_le_of_lt (hb p hp) (by decide +kernel))⟩
  have h1 := hv.len
  have h2 := hv.c8
  unfold packK
  rw [List.length_append]
  show 2 + _ ≤ _
  omega
def BaseR (K : PySem.W.Frag) (RS : Hp → V → Str → Prop) (H : Hp) (y : V) : Prop := ShY K RS H y ∧ NoSum K H y
theorem baseR_dx {K : PySem.W.Frag} {RS : Hp → V → Str → Prop} {H : Hp} {y : V} {d : PyData} (h : Dx K H y d) (hs : smW d = true) : BaseR K RS H y := ⟨.inl ⟨d, h, hs⟩, noSum_dx h⟩
theorem baseR_x {K : PySem.W.Frag} {RS : Hp → V → Str → Prop} {H H' : Hp} {y : V} (s : ExtN H H') (hR : ∀ v t, RS H v t → RS H' v t) (h : BaseR K RS H y) : BaseR K RS H' y := ⟨shY_x s hR h.1, h.2.x s⟩
theorem smW_txt {t : Str} {n : Nat} (h : TxtOk n n t) (hn : n ≤ 50000) : smW (.str t) = true := by
  obtain ⟨b1, b2, b3⟩ := txt_show3 h
  have h1 : okX (.str t) = true := List.all_eq_true.mpr fun c hc => decide_eq_true (Nat.lt_of_lt_of_le (h.asc c hc) (by decide))
  have h2 : decide (rbX (.str t) ≤ 1000000) = true := decide_eq_true (by have := h.len; show 10 * t.length + 2 ≤ _; omega)
  show (okX (.str t) && (decide (rbX (.str t) ≤ 1000000) && _)) = true
  rw [h1, h2]; rfl
theorem smW_ints {ns : List Int} (h8 : B8 ns) (hl : ns.length ≤ 200) : smW (intsD ns) = true := by
  have h1 : okX (intsD ns) = true := okXs_all fun d hd => by
    obtain ⟨n, hn, rfl⟩ := List.mem_map.mp hd
    have := h8 n hn
    exact decide_eq_true (log2_le n this.1 (Int.le_trans (Int.le_of_lt this.2) (by decide)))
  have h2 : rbX (intsD ns) ≤ 1000000 := by
    show rbXs (ns.map .int) + 2 ≤ _
    have := rbXs_le (ds := ns.map PyData.int) (m := 1921) fun d hd => by
      obtain ⟨n, hn, rfl⟩ := List.mem_map.mp hd
      exact Nat.le_refl _
    rw [List.length_map] at this
    have : ns.length * 1923 ≤ 200 * 1923 := Nat.mul_le_mul_right _ hl
    omega
  have h3 : ∀ ns : List Int, PyData.depthAll (ns.map PyData.int) ≤ 0 ∧ PyData.hasDictAll (ns.map PyData.int) = false := fun ns => by
    induction ns with
    | nil => exact ⟨Nat.le_refl _, rfl⟩
    | cons p ps ih => exact ⟨by
        have : (PyData.int p).depth = 0 := rfl
        simp only [List.map_cons, PyData.depthAll, this]
        omega, by
        simp only [List.map_cons, PyData.hasDictAll, ih.2]
        rfl⟩
  obtain ⟨h3, h4⟩ := h3 ns
  simp only [smW, Bool.and_eq_true, decide_eq_true_eq, h1, h2]
  exact ⟨trivial, trivial, (by show PyData.depthAll (ns.map .int) + 1 ≤ 20; omega), by show (!PyData.hasDictAll (ns.map .int)) = true; rw [h4]; rfl⟩
theorem tup1_len (t : Str) : (tupleText [t]).length ≤ t.length + 10 := by
  have h := join_length_add [t] (by simp)
  have hp : piled [t] = t.length + 2 := by simp [piled]
  show (("(" : Str) ++ Str.join ", " [t] ++ (if ([t].length == 1) = true then ",)" else ")" : String)).length ≤ _
  rw [str_app_len, str_app_len]
  have e1 : Str.length ("(" : Str) = 1 := by decide
  have e2 : Str.length (Str.ofString (if ([t].length == 1) = true then ",)" else ")" : String)) = 2 := by
    rw [if_pos (by rfl)]
    decide
  rw [e1, e2]
  omega
section
variable {K : PySem.W.Frag} {sp : Sp} {js : List Nat} {H : Hp} {v : V} {T : Str}
theorem shY_own (h : OwnY K "Summary" sp js H v T) (hl : T.length ≤ 800000) : ShY K (OwnY K "Summary" sp js) H v := .inr ⟨T, 0, .own h, by decide, by omega⟩
theorem shY_lst1 {a : Addr} (ha : H a = some (.lst [v])) (h : OwnY K "Summary" sp js H v T) (hl : T.length ≤ 800000) : ShY K (OwnY K "Summary" sp js) H (.ref a) := by
  have b1 := listText_le [T]
  simp only [List.map_cons, List.map_nil, List.sum_cons, List.sum_nil] at b1
  exact .inr ⟨_, _, .lst ha (.cons (.own h) .nil), by decide, by omega⟩
theorem shY_tup1 {a : Addr} (ha : H a = some (.tup [v])) (h : OwnY K "Summary" sp js H v T) (hl : T.length ≤ 800000) : ShY K (OwnY K "Summary" sp js) H (.ref a) := by
  have b1 := tup1_len T
  exact .inr ⟨_, _, .tup (SqT.of ha) (.cons (.own h) .nil), by decide, by omega⟩
theorem shY_byt {ks : List Int} (hl : ks.length ≤ 100000) : ShY K (OwnY K "Summary" sp js) H (.byt (byteArr ks)) := shY_own (.inr ⟨ks, rfl, hl, rfl⟩) (by have := lit_len ks; omega)
end
theorem smW_cap {c : Int} {ps : Bag} (h0 : 0 ≤ c) (h1 : c ≤ 100) (h : BagS ps) (hl : ps.length ≤ 12) : smW (.tuple [.int c, bagD ps]) = true := by
  have hb := smW_bag h hl
  simp only [smW, Bool.and_eq_true, decide_eq_true_eq] at hb
  obtain ⟨k1, k2, k3, k4⟩ := hb
  have hc : okX (.int c) = true := decide_eq_true (log2_le c h0 (Int.le_trans h1 (by decide)))
  obtain ⟨b1, b2, b3⟩ := bag_show3 h
  have hrb : rbX (bagD ps) ≤ 30000 := by
    have hp : ∀ d ∈ ps.map pairD, rbX d ≤ 2020 := fun d hd => by
      obtain ⟨p, hp, rfl⟩ := List.mem_map.mp hd
      have hn := isName_len (h p hp).1
      show (10 * p.1.length + 2 + 2 + (1921 + 2 + 0)) + 3 ≤ 2020
      omega
    show rbXs (ps.map pairD) + 3 ≤ _
    have := rbXs_le hp
    rw [List.length_map] at this
    have : ps.length * 2022 ≤ 12 * 2022 := Nat.mul_le_mul_right _ hl
    omega
  have e1 : okX (.tuple [.int c, bagD ps]) = true := by
    show (okX (.int c) && (okX (bagD ps) && true)) = true
    rw [hc, k1]; rfl
  have e2 : rbX (.tuple [.int c, bagD ps]) ≤ 1000000 := by
    show (1921 + 2 + (rbX (bagD ps) + 2 + 0)) + 3 ≤ _
    omega
  have e4 : (PyData.tuple [.int c, bagD ps]).hasDict = (bagD ps).hasDict := by simp [PyData.hasDict, PyData.hasDictAll]
  simp only [smW, Bool.and_eq_true, decide_eq_true_eq]
  refine ⟨e1, e2, ?_, ?_⟩
  · simp only [PyData.depth, PyData.depthAll]
    have : (bagD ps).depth ≤ 2 := b3
    omega
  · rw [e4]; exact k4
theorem NoSumY.x {K : PySem.W.Frag} {H H' : Hp} {v : V} (h : NoSumY K H v) (s : ExtN H H') : NoSumY K H' v := h.imp (fun h => h.x s) id
theorem NoByt.of {K : PySem.W.Frag} {H : Hp} {v : V} (h : NoSum K H v ∨ ∃ (mg : Str → Option Value) (fs : List Str) (c : Int) (ps : Bag), ClsF K mg "Summary" fs ∧ SumO K H v c ps) : NoByt K H v := by
  rcases h with h | ⟨mg, fs, c, ps, cl, h⟩
  · exact h.byt
  · exact sumO_byt cl h
end TP
namespace TP
open PySem PySem.Spec PyProof.Rows L2 LamX
local macro_rules | `(tactic| tm_at "side") => `(tactic| first | decide | omega | assumption | (unfold CMul; omega) | (unfold CDiv; omega) | (unfold CPow; omega))
local macro_rules | `(tactic| tm_at "heap") => `(tactic| first | assumption | exact upd_same | (refine hp_new ?_ (by assumption); tm_at "heap") | (refine hp_same (by assumption) ?_; tm_at "heap"))
local macro_rules | `(tactic| tm_at "same") => `(tactic| first | assumption | exact Same.refl _ | (refine same_step ?_ (by assumption); tm_at "same") | (refine Same.trans ?_ (by assumption); tm_at "same"))
local macro_rules | `(tactic| tm_at "sqt") => `(tactic| first | assumption | (refine SqT.of ?_; tm_at "heap") | (refine sqt_same (same_new (by assumption)) ?_; tm_at "sqt") | (refine sqt_same (by assumption) ?_; tm_at "sqt"))
local macro_rules | `(tactic| tm_at "sql") => `(tactic| first | assumption | (refine SqL.of ?_; tm_at "heap") | (refine Same.seq (same_new (by assumption)) ?_; tm_at "sql") | (refine Same.seq (by assumption) ?_; tm_at "sql"))
local macro_rules | `(tactic| tm_at "dp") => `(tactic| first | assumption | exact Dp.int _ | exact Dp.str _ | exact Dp.bl _ | exact Dp.non | (refine dp_same (same_new (by assumption)) ?_; tm_at "dp") | (refine dp_same (by assumption) ?_; tm_at "dp"))
local macro_rules | `(tactic| tm_at "sumo") => `(tactic| first | assumption | (refine sum_same (same_new (by assumption)) ?_; tm_at "sumo") | (refine sum_same (by assumption) ?_; tm_at "sumo"))
local macro_rules | `(tactic| tm_at "h") => `(tactic| with_reducible first | (exact SqL.of (by with_reducible_and_instances tm_at "heap")) | tm_at "heap" | tm_at "dp" | tm_at "sumo" | tm_at "sql" | tm_at "sqt" | tm_at "same")
local macro_rules | `(tactic| tm_at "wp1") => `(tactic| with_reducible first
  | refine StepX.go ?_ | (refine' w_var ?h1 ?_; (case h1 => (with_unfolding_all exact rfl)))
  | refine w_seq ?_
  | refine w_gname ?_
  | refine w_nx ?_ | refine w_rt ?_
  | (refine w_I ?h1 ?_; (try (case h1 => (with_unfolding_all tm_at "side"))))
  | (refine w_allocT ?h1 ?_; (case h1 => (with_unfolding_all exact rfl)); intro p hp) | (refine w_allocL ?h1 ?_; (case h1 => (with_unfolding_all exact rfl)); intro p hp)
  | refine w_tpar ?_ | refine w_tpar3 ?_ | refine w_bk ?_ | refine w_ct ?_
  | (refine' w_aug ?h1 ?_; (case h1 => (with_unfolding_all exact rfl)))
  | (refine w_dnewK ?_; intro p hp)
  | (refine w_lenC ?h1 ?h2 ?_; (case h1 => (with_unfolding_all exact rfl)); (case h2 => (with_unfolding_all exact rfl)))
  | (refine w_kwC ?h1 ?h2 ?_; (case h1 => (with_unfolding_all exact rfl)); (case h2 => (with_unfolding_all exact rfl))))
local macro_rules | `(tactic| tm_at "wp") => `(tactic| with_reducible repeat' (first
  | refine StepX.go ?_ | (refine' w_var ?h1 ?_; (case h1 => (with_unfolding_all exact rfl)))
  | refine w_seq ?_
  | refine w_gname ?_
  | refine w_nx ?_ | refine w_rt ?_
  | (refine w_I ?h1 ?_; (try (case h1 => (with_unfolding_all tm_at "side"))))
  | (refine w_allocT ?h1 ?_; (case h1 => (with_unfolding_all exact rfl)); intro p hp) | (refine w_allocL ?h1 ?_; (case h1 => (with_unfolding_all exact rfl)); intro p hp)
  | refine w_tpar ?_ | refine w_tpar3 ?_ | refine w_bk ?_ | refine w_ct ?_
  | (refine' w_aug ?h1 ?_; (case h1 => (with_unfolding_all exact rfl)))
  | (refine w_dnewK ?_; intro p hp)
  | (refine w_lenC ?h1 ?h2 ?_; (case h1 => (with_unfolding_all exact rfl)); (case h2 => (with_unfolding_all exact rfl)))
  | (refine w_kwC ?h1 ?h2 ?_; (case h1 => (with_unfolding_all exact rfl)); (case h2 => (with_unfolding_all exact rfl)))))
local macro_rules | `(tactic| tm_at "wq") => `(tactic| with_reducible repeat' (first
  | refine StepX.go ?_ | (refine' w_var ?h1 ?_; (case h1 => (with_unfolding_all exact rfl)))
  | refine w_gname ?_
  | refine w_nx ?_ | refine w_rt ?_
  | (refine w_I ?h1 ?_; (try (case h1 => (with_unfolding_all tm_at "side"))))
  | (refine w_allocT ?h1 ?_; (case h1 => (with_unfolding_all exact rfl)); intro p hp) | (refine w_allocL ?h1 ?_; (case h1 => (with_unfolding_all exact rfl)); intro p hp)
  | refine w_tpar ?_ | refine w_tpar3 ?_ | refine w_bk ?_ | refine w_ct ?_
  | (refine' w_aug ?h1 ?_; (case h1 => (with_unfolding_all exact rfl)))
  | (refine w_dnewK ?_; intro p hp)
  | (refine w_lenC ?h1 ?h2 ?_; (case h1 => (with_unfolding_all exact rfl)); (case h2 => (with_unfolding_all exact rfl)))
  | (refine w_kwC ?h1 ?h2 ?_; (case h1 => (with_unfolding_all exact rfl)); (case h2 => (with_unfolding_all exact rfl)))))
local macro_rules | `(tactic| tm_at "wx") => `(tactic| with_reducible repeat' (first | refine w_gname ?_ | refine w_next ?_ | refine w_nx ?_))
local macro_rules | `(tactic| tm_at "held") => `(tactic| first | assumption | (refine held_same (by assumption) ?_; tm_at "held"))
local macro_rules | `(tactic| tm_at "wk") => `(tactic| repeat' (first | (refine w_allocLG ?h1 ?_; (case h1 => (with_unfolding_all exact rfl)); intro p G sg hp) | tm_at "wp1" | (refine w_isP (by assumption) (by assumption) (by tm_at "held") (by decide +kernel) ?_)))
local macro_rules | `(tactic| tm_at "vp") => `(tactic| with_reducible repeat' (first
  | refine StepX.go ?_ | (refine' w_var ?h1 ?_; (case h1 => (with_unfolding_all exact rfl)))
  | refine w_seq ?_
  | refine w_gnameN (by first | (with_reducible_and_instances simp only [List.set_cons_zero, List.set_cons_succ]; apply Eq.refl) | apply Eq.refl) ?_ | refine w_gname ?_ | refine w_setN (by first | (with_reducible_and_instances simp only [List.set_cons_zero, List.set_cons_succ]; apply Eq.refl) | apply Eq.refl) ?_
  | (refine w_I ?h1 ?_; (try (case h1 => (with_unfolding_all tm_at "side"))))
  | (refine w_allocT ?h1 ?_; (case h1 => (with_unfolding_all exact rfl)); intro p hp) | (refine w_allocL ?h1 ?_; (case h1 => (with_unfolding_all exact rfl)); intro p hp)
    | refine w_tpar ?_ | refine w_tpar3 ?_
  | (refine' w_augN ?h1 ?_; (case h1 => (with_unfolding_all exact rfl))) | (refine' w_aug ?h1 ?_; (case h1 => (with_unfolding_all exact rfl)))
  | (refine w_dnewK ?_; intro p hp)
  | (refine w_lenC ?h1 ?h2 ?_; (case h1 => (with_unfolding_all exact rfl)); (case h2 => (with_unfolding_all exact rfl)))
  | (refine w_kwC ?h1 ?h2 ?_; (case h1 => (with_unfolding_all exact rfl)); (case h2 => (with_unfolding_all exact rfl)))))
local macro_rules | `(tactic| tm_at "vq") => `(tactic| with_reducible repeat' (first
  | refine StepX.go ?_ | (refine' w_var ?h1 ?_; (case h1 => (with_unfolding_all exact rfl)))
  | refine w_gnameN (by first | (with_reducible_and_instances simp only [List.set_cons_zero, List.set_cons_succ]; apply Eq.refl) | apply Eq.refl) ?_ | refine w_gname ?_ | refine w_setN (by first | (with_reducible_and_instances simp only [List.set_cons_zero, List.set_cons_succ]; apply Eq.refl) | apply Eq.refl) ?_
  | (refine w_I ?h1 ?_; (try (case h1 => (with_unfolding_all tm_at "side"))))
  | (refine w_allocT ?h1 ?_; (case h1 => (with_unfolding_all exact rfl)); intro p hp) | (refine w_allocL ?h1 ?_; (case h1 => (with_unfolding_all exact rfl)); intro p hp)
    | refine w_tpar ?_ | refine w_tpar3 ?_
  | (refine' w_augN ?h1 ?_; (case h1 => (with_unfolding_all exact rfl))) | (refine' w_aug ?h1 ?_; (case h1 => (with_unfolding_all exact rfl)))
  | (refine w_dnewK ?_; intro p hp)
  | (refine w_lenC ?h1 ?h2 ?_; (case h1 => (with_unfolding_all exact rfl)); (case h2 => (with_unfolding_all exact rfl)))
  | (refine w_kwC ?h1 ?h2 ?_; (case h1 => (with_unfolding_all exact rfl)); (case h2 => (with_unfolding_all exact rfl)))))
local macro_rules | `(tactic| tm_at "vx") => `(tactic| with_reducible repeat' (first | refine w_gnameN (by first | (with_reducible_and_instances simp only [List.set_cons_zero, List.set_cons_succ]; apply Eq.refl) | apply Eq.refl) ?_ | refine w_gname ?_ | refine w_setN (by first | (with_reducible_and_instances simp only [List.set_cons_zero, List.set_cons_succ]; apply Eq.refl) | apply Eq.refl) ?_ | refine w_next ?_))
local macro_rules | `(tactic| tm_at "gd") => `(tactic| repeat (first | exact gd_int | exact gd_neg | exact gd_str | exact gd_bl | exact gd_non | exact gd_dct | exact gd_pow (by unfold CPow; decide) | exact gd_var (by with_unfolding_all exact rfl) (.str _) | exact ga_nil | refine ga_cons ?_ ?_ | refine gd_tup ?_ rfl | refine gl_lst ?_ rfl | refine gl_d ?_))
abbrev N_is_whole : List Str := ["thing"]
theorem sc_is_whole : FnScope N_is_whole ["thing"] (defScope s_is_whole) := ⟨rfl, rfl, rfl, by decide +kernel, rfl, by decide +kernel, by decide +kernel⟩
theorem pb_is_whole : PosB "is_whole" s_is_whole ["thing"] := fun _ _ _ _ _ _ us hl => match us, hl with | [_], _ => rfl
abbrev N_is_from : List Str := ["thing", "least"]
theorem sc_is_from : FnScope N_is_from ["thing", "least"] (defScope s_is_from) := ⟨rfl, rfl, rfl, by decide +kernel, rfl, by decide +kernel, by decide +kernel⟩
theorem pb_is_from : PosB "is_from" s_is_from ["thing", "least"] := fun _ _ _ _ _ _ us hl => match us, hl with | [_, _], _ => rfl
abbrev N_is_between : List Str := ["thing", "least", "most"]
theorem sc_is_between : FnScope N_is_between ["thing", "least", "most"] (defScope s_is_between) := ⟨rfl, rfl, rfl, by decide +kernel, rfl, by decide +kernel, by decide +kernel⟩
theorem pb_is_between : PosB "is_between" s_is_between ["thing", "least", "most"] := fun _ _ _ _ _ _ us hl => match us, hl with | [_, _, _], _ => rfl
abbrev N_is_capacity : List Str := ["thing"]
theorem sc_is_capacity : FnScope N_is_capacity ["thing"] (defScope s_is_capacity) := ⟨rfl, rfl, rfl, by decide +kernel, rfl, by decide +kernel, by decide +kernel⟩
theorem pb_is_capacity : PosB "is_capacity" s_is_capacity ["thing"] := fun _ _ _ _ _ _ us hl => match us, hl with | [_], _ => rfl
abbrev N_is_name : List Str := ["thing", "letter"]
theorem sc_is_name : FnScope N_is_name ["thing"] (defScope s_is_name) := ⟨rfl, rfl, rfl, by decide +kernel, rfl, by decide +kernel, by decide +kernel⟩
theorem pb_is_name : PosB "is_name" s_is_name ["thing"] := fun _ _ _ _ _ _ us hl => match us, hl with | [_], _ => rfl
abbrev N_is_run : List Str := ["thing"]
theorem sc_is_run : FnScope N_is_run ["thing"] (defScope s_is_run) := ⟨rfl, rfl, rfl, by decide +kernel, rfl, by decide +kernel, by decide +kernel⟩
theorem pb_is_run : PosB "is_run" s_is_run ["thing"] := fun _ _ _ _ _ _ us hl => match us, hl with | [_], _ => rfl
abbrev N_first_invalid : List Str := ["thing", "most", "index", "pair"]
theorem sc_first_invalid : FnScope N_first_invalid ["thing", "most"] (defScope s_first_invalid) := ⟨rfl, rfl, rfl, by decide +kernel, rfl, by decide +kernel, by decide +kernel⟩
theorem pb_first_invalid : PosB "first_invalid" s_first_invalid ["thing", "most"] := fun _ _ _ _ _ _ us hl => match us, hl with | [_, _], _ => rfl
abbrev N_check_capacity : List Str := ["thing"]
theorem sc_check_capacity : FnScope N_check_capacity ["thing"] (defScope s_check_capacity) := ⟨rfl, rfl, rfl, by decide +kernel, rfl, by decide +kernel, by decide +kernel⟩
theorem pb_check_capacity : PosB "check_capacity" s_check_capacity ["thing"] := fun _ _ _ _ _ _ us hl => match us, hl with | [_], _ => rfl
abbrev N_counts_text : List Str := ["counts", "name", "count"]
theorem sc_counts_text : FnScope N_counts_text ["counts"] (defScope s_counts_text) := ⟨rfl, rfl, rfl, by decide +kernel, rfl, by decide +kernel, by decide +kernel⟩
theorem pb_counts_text : PosB "counts_text" s_counts_text ["counts"] := fun _ _ _ _ _ _ us hl => match us, hl with | [_], _ => rfl
abbrev N_Summary___init__ : List Str := ["self", "capacity", "counts", "invalid"]
theorem sc_Summary___init__ : FnScope N_Summary___init__ ["self", "capacity", "counts"] (defScope s_Summary___init__) := ⟨rfl, rfl, rfl, by decide +kernel, rfl, by decide +kernel, by decide +kernel⟩
abbrev N_Summary___str__ : List Str := ["self"]
theorem sc_Summary___str__ : FnScope N_Summary___str__ ["self"] (defScope s_Summary___str__) := ⟨rfl, rfl, rfl, by decide +kernel, rfl, by decide +kernel, by decide +kernel⟩
abbrev N_Summary___repr__ : List Str := ["self"]
theorem sc_Summary___repr__ : FnScope N_Summary___repr__ ["self"] (defScope s_Summary___repr__) := ⟨rfl, rfl, rfl, by decide +kernel, rfl, by decide +kernel, by decide +kernel⟩
abbrev N_is_summary : List Str := ["thing"]
theorem sc_is_summary : FnScope N_is_summary ["thing"] (defScope s_is_summary) := ⟨rfl, rfl, rfl, by decide +kernel, rfl, by decide +kernel, by decide +kernel⟩
theorem pb_is_summary : PosB "is_summary" s_is_summary ["thing"] := fun _ _ _ _ _ _ us hl => match us, hl with | [_], _ => rfl
abbrev N_check_summary : List Str := ["thing"]
theorem sc_check_summary : FnScope N_check_summary ["thing"] (defScope s_check_summary) := ⟨rfl, rfl, rfl, by decide +kernel, rfl, by decide +kernel, by decide +kernel⟩
theorem pb_check_summary : PosB "check_summary" s_check_summary ["thing"] := fun _ _ _ _ _ _ us hl => match us, hl with | [_], _ => rfl
abbrev N_summary_or_none : List Str := ["capacity", "counts"]
theorem sc_summary_or_none : FnScope N_summary_or_none ["capacity", "counts"] (defScope s_summary_or_none) := ⟨rfl, rfl, rfl, by decide +kernel, rfl, by decide +kernel, by decide +kernel⟩
theorem pb_summary_or_none : PosB "summary_or_none" s_summary_or_none ["capacity", "counts"] := fun _ _ _ _ _ _ us hl => match us, hl with | [_, _], _ => rfl
abbrev N_pack_summary : List Str := ["summary", "packed", "name", "count", "size"]
theorem sc_pack_summary : FnScope N_pack_summary ["summary"] (defScope s_pack_summary) := ⟨rfl, rfl, rfl, by decide +kernel, rfl, by decide +kernel, by decide +kernel⟩
theorem pb_pack_summary : PosB "pack_summary" s_pack_summary ["summary"] := fun _ _ _ _ _ _ us hl => match us, hl with | [_], _ => rfl
abbrev N_block_at : List Str := ["data", "index", "end"]
theorem sc_block_at : FnScope N_block_at ["data", "index"] (defScope s_block_at) := ⟨rfl, rfl, rfl, by decide +kernel, rfl, by decide +kernel, by decide +kernel⟩
theorem pb_block_at : PosB "block_at" s_block_at ["data", "index"] := fun _ _ _ _ _ _ us hl => match us, hl with | [_, _], _ => rfl
abbrev N_pair_at : List Str := ["data", "index", "first", "second", "letters", "byte", "letter"]
theorem sc_pair_at : FnScope N_pair_at ["data", "index"] (defScope s_pair_at) := ⟨rfl, rfl, rfl, by decide +kernel, rfl, by decide +kernel, by decide +kernel⟩
theorem pb_pair_at : PosB "pair_at" s_pair_at ["data", "index"] := fun _ _ _ _ _ _ us hl => match us, hl with | [_, _], _ => rfl
abbrev N_unpack_summary : List Str := ["data", "counts", "index", "turn", "scanned", "summary"]
theorem sc_unpack_summary : FnScope N_unpack_summary ["data"] (defScope s_unpack_summary) := ⟨rfl, rfl, rfl, by decide +kernel, rfl, by decide +kernel, by decide +kernel⟩
theorem pb_unpack_summary : PosB "unpack_summary" s_unpack_summary ["data"] := fun _ _ _ _ _ _ us hl => match us, hl with | [_], _ => rfl
abbrev N__law_cell : List Str := ["_law_script", "_law_k", "_law_state", "_law_cell_here"]
theorem sc__law_cell : FnScope N__law_cell ["_law_script", "_law_k"] (defScope s__law_cell) := ⟨rfl, rfl, rfl, by decide +kernel, rfl, by decide +kernel, by decide +kernel⟩
theorem pb__law_cell : PosB "_law_cell" s__law_cell ["_law_script", "_law_k"] := fun _ _ _ _ _ _ us hl => match us, hl with | [_, _], _ => rfl
abbrev N__law_pool : List Str := ["_law_cell_here", "_law_digits"]
theorem sc__law_pool : FnScope N__law_pool ["_law_cell_here"] (defScope s__law_pool) := ⟨rfl, rfl, rfl, by decide +kernel, rfl, by decide +kernel, by decide +kernel⟩
theorem pb__law_pool : PosB "_law_pool" s__law_pool ["_law_cell_here"] := fun _ _ _ _ _ _ us hl => match us, hl with | [_], _ => rfl
abbrev N__law_draw : List Str := ["_law_pool_here", "_law_many", "_law_state", "_law_digit"]
theorem sc__law_draw : FnScope N__law_draw ["_law_pool_here", "_law_many"] (defScope s__law_draw) := ⟨rfl, rfl, rfl, by decide +kernel, rfl, by decide +kernel, by decide +kernel⟩
theorem pb__law_draw : PosB "_law_draw" s__law_draw ["_law_pool_here", "_law_many"] := fun _ _ _ _ _ _ us hl => match us, hl with | [_, _], _ => rfl
abbrev N__law_words : List Str := ["_law_pool_here", "_law_many", "_law_letters", "_law_menu", "_law_way", "_law_begin", "_law_k", "_law_stem", "_law_at"]
theorem sc__law_words : FnScope N__law_words ["_law_pool_here", "_law_many"] (defScope s__law_words) := ⟨rfl, rfl, rfl, by decide +kernel, rfl, by decide +kernel, by decide +kernel⟩
theorem pb__law_words : PosB "_law_words" s__law_words ["_law_pool_here", "_law_many"] := fun _ _ _ _ _ _ us hl => match us, hl with | [_, _], _ => rfl
abbrev N__law_often : List Str := ["_law_pool_here", "_law_way"]
theorem sc__law_often : FnScope N__law_often ["_law_pool_here"] (defScope s__law_often) := ⟨rfl, rfl, rfl, by decide +kernel, rfl, by decide +kernel, by decide +kernel⟩
theorem pb__law_often : PosB "_law_often" s__law_often ["_law_pool_here"] := fun _ _ _ _ _ _ us hl => match us, hl with | [_], _ => rfl
abbrev N__law_bag : List Str := ["_law_pool_here", "_law_words_here", "_law_most", "_law_found", "_law_word"]
theorem sc__law_bag : FnScope N__law_bag ["_law_pool_here", "_law_words_here", "_law_most"] (defScope s__law_bag) := ⟨rfl, rfl, rfl, by decide +kernel, rfl, by decide +kernel, by decide +kernel⟩
theorem pb__law_bag : PosB "_law_bag" s__law_bag ["_law_pool_here", "_law_words_here", "_law_most"] := fun _ _ _ _ _ _ us hl => match us, hl with | [_, _, _], _ => rfl
abbrev N__law_kind : List Str := ["_law_e", "_law_kinds", "_law_bases", "_law_own", "_law_at", "_law_words_here"]
theorem sc__law_kind : FnScope N__law_kind ["_law_e"] (defScope s__law_kind) := ⟨rfl, rfl, rfl, by decide +kernel, rfl, by decide +kernel, by decide +kernel⟩
theorem pb__law_kind : PosB "_law_kind" s__law_kind ["_law_e"] := fun _ _ _ _ _ _ us hl => match us, hl with | [_], _ => rfl
abbrev N__law_fields : List Str := ["_law_e"]
theorem sc__law_fields : FnScope N__law_fields ["_law_e"] (defScope s__law_fields) := ⟨rfl, rfl, rfl, by decide +kernel, rfl, by decide +kernel, by decide +kernel⟩
theorem pb__law_fields : PosB "_law_fields" s__law_fields ["_law_e"] := fun _ _ _ _ _ _ us hl => match us, hl with | [_], _ => rfl
abbrev N__law_other_fields : List Str := ["_law_e"]
theorem sc__law_other_fields : FnScope N__law_other_fields ["_law_e"] (defScope s__law_other_fields) := ⟨rfl, rfl, rfl, by decide +kernel, rfl, by decide +kernel, by decide +kernel⟩
theorem pb__law_other_fields : PosB "_law_other_fields" s__law_other_fields ["_law_e"] := fun _ _ _ _ _ _ us hl => match us, hl with | [_], _ => rfl
abbrev N__law_numbers : List Str := ["_law_blob_here"]
theorem sc__law_numbers : FnScope N__law_numbers ["_law_blob_here"] (defScope s__law_numbers) := ⟨rfl, rfl, rfl, by decide +kernel, rfl, by decide +kernel, by decide +kernel⟩
theorem pb__law_numbers : PosB "_law_numbers" s__law_numbers ["_law_blob_here"] := fun _ _ _ _ _ _ us hl => match us, hl with | [_], _ => rfl
abbrev N__law_pieces : List Str := ["_law_zero", "_law_many"]
theorem sc__law_pieces : FnScope N__law_pieces [] (defScope s__law_pieces) := ⟨rfl, rfl, rfl, by decide +kernel, rfl, by decide +kernel, by decide +kernel⟩
theorem pb__law_pieces : PosB "_law_pieces" s__law_pieces [] := fun _ _ _ _ _ _ us hl => match us, hl with | [], _ => rfl
abbrev N__law_blob : List Str := ["_law_pieces_here", "_law_numbers_here", "_law_blob_here", "_law_number"]
theorem sc__law_blob : FnScope N__law_blob ["_law_pieces_here", "_law_numbers_here"] (defScope s__law_blob) := ⟨rfl, rfl, rfl, by decide +kernel, rfl, by decide +kernel, by decide +kernel⟩
theorem pb__law_blob : PosB "_law_blob" s__law_blob ["_law_pieces_here", "_law_numbers_here"] := fun _ _ _ _ _ _ us hl => match us, hl with | [_, _], _ => rfl
abbrev N__law_due : List Str := ["_law_numbers_here", "_law_found", "_law_at", "_law_turn", "_law_size", "_law_letters", "_law_more", "_law_digits", "_law_word", "_law_many", "_law_letter", "_law_digit"]
theorem sc__law_due : FnScope N__law_due ["_law_numbers_here"] (defScope s__law_due) := ⟨rfl, rfl, rfl, by decide +kernel, rfl, by decide +kernel, by decide +kernel⟩
theorem pb__law_due : PosB "_law_due" s__law_due ["_law_numbers_here"] := fun _ _ _ _ _ _ us hl => match us, hl with | [_], _ => rfl
abbrev N__law_changed : List Str := ["_law_pool_here", "_law_numbers_here", "_law_turn", "_law_at", "_law_way", "_law_number", "_law_left", "_law_right_here"]
theorem sc__law_changed : FnScope N__law_changed ["_law_pool_here", "_law_numbers_here"] (defScope s__law_changed) := ⟨rfl, rfl, rfl, by decide +kernel, rfl, by decide +kernel, by decide +kernel⟩
theorem pb__law_changed : PosB "_law_changed" s__law_changed ["_law_pool_here", "_law_numbers_here"] := fun _ _ _ _ _ _ us hl => match us, hl with | [_, _], _ => rfl
abbrev N__law_one_right : List Str := ["_law_pieces_here", "_law_numbers_here", "_law_blob_here", "_law_due_here", "_law_found", "_law_told"]
theorem sc__law_one_right : FnScope N__law_one_right ["_law_pieces_here", "_law_numbers_here"] (defScope s__law_one_right) := ⟨rfl, rfl, rfl, by decide +kernel, rfl, by decide +kernel, by decide +kernel⟩
theorem pb__law_one_right : PosB "_law_one_right" s__law_one_right ["_law_pieces_here", "_law_numbers_here"] := fun _ _ _ _ _ _ us hl => match us, hl with | [_, _], _ => rfl
abbrev N__law_by_hand : List Str := ["_law_some", "_law_two"]
theorem sc__law_by_hand : FnScope N__law_by_hand [] (defScope s__law_by_hand) := ⟨rfl, rfl, rfl, by decide +kernel, rfl, by decide +kernel, by decide +kernel⟩
theorem pb__law_by_hand : PosB "_law_by_hand" s__law_by_hand [] := fun _ _ _ _ _ _ us hl => match us, hl with | [], _ => rfl
abbrev N__law_others_right : List Str := ["_law_width", "_law_bag_here", "_law_made", "_law_blob_here", "_law_rows", "_law_bad"]
theorem sc__law_others_right : FnScope N__law_others_right ["_law_width", "_law_bag_here"] (defScope s__law_others_right) := ⟨rfl, rfl, rfl, by decide +kernel, rfl, by decide +kernel, by decide +kernel⟩
theorem pb__law_others_right : PosB "_law_others_right" s__law_others_right ["_law_width", "_law_bag_here"] := fun _ _ _ _ _ _ us hl => match us, hl with | [_, _], _ => rfl
abbrev N__law_right : List Str := ["_law_pool_here", "_law_pieces_here", "_law_width", "_law_bag_here", "_law_numbers_here", "_law_turn"]
theorem sc__law_right : FnScope N__law_right ["_law_pool_here", "_law_pieces_here"] (defScope s__law_right) := ⟨rfl, rfl, rfl, by decide +kernel, rfl, by decide +kernel, by decide +kernel⟩
theorem pb__law_right : PosB "_law_right" s__law_right ["_law_pool_here", "_law_pieces_here"] := fun _ _ _ _ _ _ us hl => match us, hl with | [_, _], _ => rfl
abbrev N_law : List Str := ["_law_script", "_law_pieces_here", "_law_numbers_here", "_law_k"]
theorem sc_law : FnScope N_law ["_law_script"] (defScope s_law) := ⟨rfl, rfl, rfl, by decide +kernel, rfl, by decide +kernel, by decide +kernel⟩
theorem pb_law : PosB "law" s_law ["_law_script"] := fun _ _ _ _ _ _ us hl => match us, hl with | [_], _ => rfl
def gkb_unpack_summary_0_data : {α : Type} → List α → List α → List α := fun us ws => match us, ws with | [], [w0] => [w0] | _, _ => []
theorem kb_unpack_summary_0_data : KwB "unpack_summary" s_unpack_summary ["data"] 0 ["data"] gkb_unpack_summary_0_data := fun _ _ _ _ _ _ us ws hl hk => match us, hl, ws, hk with | [], _, [_], _ => rfl
theorem kb_unpack_summary_0_data_r : ∀ {vs zs : List V} {us ws : List Value}, Vals vs us → Vals zs ws → vs.length = 0 → zs.length = 1 → Vals (gkb_unpack_summary_0_data vs zs) (gkb_unpack_summary_0_data us ws)
  | [], [_], _, _, .nil, .cons q0 (.nil), _, _ => .cons q0 (.nil)
def gkb_pack_summary_0_summary : {α : Type} → List α → List α → List α := fun us ws => match us, ws with | [], [w0] => [w0] | _, _ => []
theorem kb_pack_summary_0_summary : KwB "pack_summary" s_pack_summary ["summary"] 0 ["summary"] gkb_pack_summary_0_summary := fun _ _ _ _ _ _ us ws hl hk => match us, hl, ws, hk with | [], _, [_], _ => rfl
theorem kb_pack_summary_0_summary_r : ∀ {vs zs : List V} {us ws : List Value}, Vals vs us → Vals zs ws → vs.length = 0 → zs.length = 1 → Vals (gkb_pack_summary_0_summary vs zs) (gkb_pack_summary_0_summary us ws)
  | [], [_], _, _, .nil, .cons q0 (.nil), _, _ => .cons q0 (.nil)
theorem bj_Summary___init___3 : BindJ "__init__" "Summary.__init__" s_Summary___init__ ["self", "capacity", "counts"] 1 3 [] [0, 1, 2] := .inr ⟨by decide, fun _ _ _ _ _ _ _ us its ws h1 h2 h3 => match us, h1, its, h2, ws, h3 with | [_, _, _], _, [_], _, [], _ => ⟨_, rfl, rfl⟩⟩
theorem bj_Summary___repr___1 : BindJ "__repr__" "Summary.__repr__" s_Summary___repr__ ["self"] 0 1 [] [0] := .inl ⟨rfl, fun _ _ _ _ _ _ us ws h1 h2 => match us, h1, ws, h2 with | [_], _, [], _ => rfl⟩
theorem bj_Summary___str___1 : BindJ "__str__" "Summary.__str__" s_Summary___str__ ["self"] 0 1 [] [0] := .inl ⟨rfl, fun _ _ _ _ _ _ us ws h1 h2 => match us, h1, ws, h2 with | [_], _, [], _ => rfl⟩
def sp_is_whole (K : PySem.W.Frag) : Sp := fun vs H Q _ => ∃ (v : V) (d : PyData), vs = [v] ∧ Dx K H v d ∧ Q (.bl (wholeD d)) H
def sp_is_from (K : PySem.W.Frag) : Sp := fun vs H Q _ => ∃ (v : V) (d : PyData) (j : Int), vs = [v, .int j] ∧ Dx K H v d ∧ Q (.bl (fromD d j)) H
def sp_is_between (K : PySem.W.Frag) : Sp := fun vs H Q _ => ∃ (v : V) (d : PyData) (i j : Int), vs = [v, .int i, .int j] ∧ Dx K H v d ∧ Q (.bl (betD d i j)) H
def sp_is_capacity (K : PySem.W.Frag) : Sp := fun vs H Q _ => ∃ (v : V) (d : PyData), vs = [v] ∧ Dx K H v d ∧ Q (.bl (betD d 1 8)) H
def sp_is_name (K : PySem.W.Frag) : Sp := fun vs H Q _ => ∃ (v : V) (d : PyData), vs = [v] ∧ Dx K H v d ∧ szD d = true ∧ ∀ H', Same H H' → Q (.bl (nameD d)) H'
def sp_is_run (K : PySem.W.Frag) : Sp := fun vs H Q _ => ∃ (v : V) (d : PyData), vs = [v] ∧ Dx K H v d ∧ szD d = true ∧ ∀ H', Same H H' → Q (.bl (runD d)) H'
theorem run_inv {K : PySem.W.Frag} {H : Hp} {v : V} {d : PyData} (h : Dx K H v d) (r : runD d = true) : ∃ a x w, v = .ref a ∧ SqT K H a [.str x, w] ∧ nmD d = x := by
  unfold runD at r
  split at r
  · rename_i a b
    cases a with
    | str x =>
      obtain ⟨p, xs, rfl, hs, hx⟩ := dx_tup_inv h
      cases hx with
      | @cons v0 _ _ _ r0 hx =>
      cases hx with
      | @cons v1 _ _ _ r1 hx =>
      cases hx
      cases dx_str_inv r0
      exact ⟨p, x, v1, rfl, hs, rfl⟩
    | _ => cases r
  · cases r
theorem getD_of {ds : List PyData} {i : Nat} {d : PyData} (h : ds[i]? = some d) : ds.getD i .none = d := by simp [List.getD, h]
def sp_first_invalid (K : PySem.W.Frag) : Sp := fun vs H Q _ => ∃ (v : V) (ds : List PyData) (m : Int), vs = [v, .int m] ∧ Dx K H v (.tuple ds) ∧ szDs ds = true ∧ ∀ H', Same H H' → Q (optV (firstBad ds m)) H'
def sp_check_capacity (K : PySem.W.Frag) : Sp := fun vs H Q E => ∃ (v : V) (d : PyData), vs = [v] ∧ Dx K H v d ∧ (betD d 1 8 = true → Q .non H) ∧ (betD d 1 8 = false → ∀ dd H', Same H H' → H' dd = some (.xd [("capacity", v)]) → E (.ref (He.ga K "InvalidCapacity")) (some dd) H')
def sp_counts_text (K : PySem.W.Frag) : Sp := fun vs H Q _ => ∃ (v : V) (ps : Bag), vs = [v] ∧ Dp K H v (bagD ps) ∧ BagS ps ∧ ps.length ≤ 5000 ∧ ∀ H', Same H H' → Q (.str (cText ps)) H'
def sp_Summary___init__ (K : PySem.W.Frag) : Sp := spInitX K
def sp_Summary___str__ (K : PySem.W.Frag) : Sp := fun vs H Q _ => ∃ (v : V) (c : Int) (ps : Bag), vs = [v] ∧ SumO K H v c ps ∧ SumV c ps ∧ BagS ps ∧ ∀ H', Same H H' → Q (.str (cText ps)) H'
def sp_Summary___repr__ (K : PySem.W.Frag) : Sp := fun vs H Q _ => ∃ (v : V) (c : Int) (ps : Bag), vs = [v] ∧ SumO K H v c ps ∧ SumV c ps ∧ BagS ps ∧ ∀ H', Same H H' → Q (.str (("Summary(" : Str) ++ intS c ++ (", '" : Str) ++ cText ps ++ ("')" : Str))) H'
def sp_is_summary (K : PySem.W.Frag) : Sp := fun vs H Q _ => ∃ (v : V) (b : Bool), vs = [v] ∧ ((b = true ∧ ∃ c ps, SumO K H v c ps) ∨ (b = false ∧ NoSumY K H v)) ∧ Q (.bl b) H
def sp_check_summary (K : PySem.W.Frag) : Sp := fun vs H Q E => ∃ (v : V) (b : Bool), vs = [v] ∧ (b = true → ∃ c ps, SumO K H v c ps) ∧ (b = false → NoSumY K H v) ∧ (b = true → Q .non H) ∧ (b = false → ∀ dd H', Same H H' → H' dd = some (.xd [("value", v)]) → E (.ref (He.ga K "NotASummary")) (some dd) H')
def sp_summary_or_none (K : PySem.W.Frag) : Sp := fun vs H Q _ => ∃ (c : Int) (v : V) (d : PyData), vs = [.int c, v] ∧ 1 ≤ c ∧ c ≤ 8 ∧ Dx K H v d ∧ szD d = true ∧ (verOk (badF c) d = true → ∀ a dx H', Same H H' → H' a = some (.ins (He.ga K "Summary") dx [("capacity", .int c), ("counts", v)]) → Q (.ref a) H') ∧ (verOk (badF c) d = false → ∀ H', Same H H' → Q .non H')
def sp_pack_summary (K : PySem.W.Frag) : Sp := fun vs H Q E => ∃ (v : V), vs = [v] ∧ ((∃ (c : Int) (ps : Bag), SumO K H v c ps ∧ SumV c ps ∧ (∀ p ∈ ps, p.2 < 256 ^ 200) ∧ ∀ H', Same H H' → Q (.byt (byteArr (packK c ps))) H') ∨ (NoSumY K H v ∧ ∀ dd H', Same H H' → H' dd = some (.xd [("value", v)]) → E (.ref (He.ga K "NotASummary")) (some dd) H'))
def sp_block_at (K : PySem.W.Frag) : Sp := fun vs H Q _ => ∃ (ks : List Int) (i : Nat), vs = [.byt (byteArr ks), .int (i : Nat)] ∧ B8 ks ∧ ks.length ≤ 100000 ∧ i ≤ 200000 ∧ (blockR (ks.drop i) = none → ∀ H', Same H H' → Q .non H') ∧ ∀ a r, blockR (ks.drop i) = some (a, r) → ∀ (t : Addr) (e : Nat) H', Same H H' → H' t = some (.tup [.byt (byteArr a), .int (e : Nat)]) → e ≤ ks.length → ks.drop e = r → Q (.ref t) H'
def sp_pair_at (K : PySem.W.Frag) : Sp := fun vs H Q _ => ∃ (ks : List Int) (i : Nat), vs = [.byt (byteArr ks), .int (i : Nat)] ∧ B8 ks ∧ ks.length ≤ 10000 ∧ i ≤ 100000 ∧ (pairR (ks.drop i) = none → ∀ H', Same H H' → Q .non H') ∧ ∀ q r, pairR (ks.drop i) = some (q, r) → ∀ (t t1 : Addr) (e : Nat) H', Same H H' → H' t = some (.tup [.ref t1, .int (e : Nat)]) → H' t1 = some (.tup [.str q.1, .int q.2]) → e ≤ ks.length → ks.drop e = r → Q (.ref t) H'
def sp_unpack_summary (K : PySem.W.Frag) : Sp := fun vs H Q E => ∃ v, vs = [v] ∧ ((∃ ks : List Int, v = .byt (byteArr ks) ∧ B8 ks ∧ ks.length ≤ 10000 ∧ (∀ c ps, unpackK ks = some (c, ps) → ∀ v H', Same H H' → SumO K H' v c ps → Q v H') ∧ (unpackK ks = none → ∀ dd H', Same H H' → H' dd = some (.xd [("text", .byt (byteArr ks))]) → E (.ref (He.ga K "InvalidText")) (some dd) H')) ∨ (NoByt K H v ∧ ∀ dd H', Same H H' → H' dd = some (.xd [("text", v)]) → E (.ref (He.ga K "InvalidText")) (some dd) H'))
def sp__law_cell (K : PySem.W.Frag) : Sp := fun vs H Q _ => ∃ (a : Addr) (ns : List Int) (j : Int), vs = [.ref a, .int j] ∧ SqL K H a (ns.map V.int) ∧ ns.length ≤ 100 ∧ 0 ≤ j ∧ j ≤ 1000 ∧ ∀ n H', Same H H' → Q (.int n) H'
def spc__law_pool (K : PySem.W.Frag) : Sp := spPoolC
def sp__law_pool (K : PySem.W.Frag) : Sp := spPool
theorem divp200 {i j : Int} (h0 : 0 < j) (h1 : j < 2 ^ 200) : CDivP i j := by
  refine ⟨h0, PyProof.noPylong_of_log2 ?_⟩
  exact Nat.lt_of_lt_of_le (PySem.Flt.log2_lt_of (by decide : 0 < 200) (by omega)) (by decide)
def spc__law_draw (K : PySem.W.Frag) : Sp := spDrawC
def sp__law_draw (K : PySem.W.Frag) : Sp := spDraw
def sp__law_words (K : PySem.W.Frag) : Sp := fun vs H Q _ => ∃ (p : Addr) (m : Int), vs = [.ref p, .int m] ∧ H p = some (poolO p) ∧ 0 ≤ m ∧ m ≤ 15 ∧ ∀ a ws H', H a = none → Same H H' → H' a = some (.lst (ws.map V.str)) → WordsOk ws m.toNat → Q (.ref a) H'
def sp__law_often (K : PySem.W.Frag) : Sp := fun vs H Q _ => ∃ (p : Addr), vs = [.ref p] ∧ H p = some (poolO p) ∧ ∀ (r : Int) H', 1 ≤ r → r ≤ 10 ^ 30 → Same H H' → Q (.int r) H'
def sp__law_bag (K : PySem.W.Frag) : Sp := fun vs H Q _ => ∃ (p a : Addr) (ws : List Str) (m : Int) (n : Nat), vs = [.ref p, .ref a, .int m] ∧ H p = some (poolO p) ∧ SqL K H a (ws.map V.str) ∧ WordsOk ws n ∧ n < 64 ∧ 0 ≤ m ∧ m ≤ 10 ^ 30 ∧ ∀ v ps H', Same H H' → Dp K H' v (bagD ps) → BagOk ps → (∀ q ∈ ps, q.1 ∈ ws) → ps.length ≤ n → (∀ q ∈ ps, q.2 ≤ 10 ^ 30) → (0 < m → ∀ q ∈ ps, q.2 ≤ m) → Q v H'
def sp__law_kind (K : PySem.W.Frag) : Addr × Obj → Sp := spKind K
def sp__law_fields (K : PySem.W.Frag) : Addr × Obj → Sp := spFields K
def sp__law_other_fields (K : PySem.W.Frag) : Addr × Obj → Sp := spFieldsO K
def sp__law_numbers (K : PySem.W.Frag) : Sp := fun vs H Q _ => ∃ ks : List Int, vs = [.byt (byteArr ks)] ∧ B8 ks ∧ ks.length ≤ 100000 ∧ ∀ q, H q = none → Q (.ref q) (upd H q (.lst (ks.map V.int)))
theorem one_ok {n : Int} (h : 1 ≤ n) : SumV 1 [(("a" : Str), n)] := ⟨by decide, by decide, ⟨List.pairwise_singleton _ _, fun p hp => by rw [List.mem_singleton.mp hp]; exact (by decide +kernel : isName "a" = true), fun p hp => by rw [List.mem_singleton.mp hp]; exact h⟩, by show ((1 : Nat) : Int) ≤ 1; decide⟩
theorem one_b2 {n : Int} (h : n ≤ 256) : ∀ p ∈ [(("a" : Str), n)], p.2 < 256 ^ 200 := fun p hp => by
  rw [List.mem_singleton.mp hp]
  exact Int.lt_of_le_of_lt h (by decide +kernel)
theorem piece_0 : cutL (packK 1 [(("a" : Str), 256)]) (some (-1)) none = [0] := by decide +kernel
theorem piece_at : ∀ i, i < 255 → cutL (packK 1 [(("a" : Str), 1 + ((i : Nat) : Int))]) (some (-1)) none = [1 + ((i : Nat) : Int)] := by decide +kernel
theorem piece_len {n : Int} (h : 1 ≤ n) (h2 : n ≤ 256) : (packK 1 [(("a" : Str), n)]).length ≤ 100000 := Nat.le_trans (packK_len (one_ok h) (one_b2 h2)) (by decide)
def sp__law_pieces (K : PySem.W.Frag) : Sp := fun vs H Q _ => vs = [] ∧ ∀ a H', Same H H' → H' a = some (.lst ((List.range 256).map fun i => V.byt (byteArr [((i : Nat) : Int)]))) → Q (.ref a) H'
def sp__law_blob (K : PySem.W.Frag) : Sp := fun vs H Q _ => ∃ (p a : Addr) (ns : List Int), vs = [.ref p, .ref a] ∧ SqL K H p ((List.range 256).map fun i => V.byt (byteArr [((i : Nat) : Int)])) ∧ SqL K H a (ns.map V.int) ∧ B8 ns ∧ ns.length ≤ 3000 ∧ Q (.byt (byteArr ns)) H
def sp__law_due (K : PySem.W.Frag) : Sp := fun vs H Q _ => ∃ (a : Addr) (ns : List Int), vs = [.ref a] ∧ SqL K H a (ns.map V.int) ∧ B8 ns ∧ ns.length ≤ 3000 ∧ (unpackK ns = none → ∀ H', Same H H' → Q .non H') ∧ (∀ c ps, unpackK ns = some (c, ps) → ∀ l b H', Same H H' → H' l = some (.lst [.int c, b]) → Dp K H' b (bagD ps) → Q (.ref l) H')
def sp__law_changed (K : PySem.W.Frag) : Sp := fun vs H Q _ => ∃ (p a : Addr) (ns : List Int), vs = [.ref p, .ref a] ∧ H p = some (poolO p) ∧ SqL K H a (ns.map V.int) ∧ B8 ns ∧ ns.length ≤ 3000 ∧ ∀ (a' : Addr) (ns' : List Int) (H' : Hp), Same H H' → SqL K H' a' (ns'.map V.int) → B8 ns' → ns'.length ≤ ns.length + 3 → Q (.ref a') H'
def sp__law_one_right (K : PySem.W.Frag) : Sp := fun vs H Q _ => ∃ (p a : Addr) (ns : List Int), vs = [.ref p, .ref a] ∧ SqL K H p ((List.range 256).map fun i => V.byt (byteArr [((i : Nat) : Int)])) ∧ SqL K H a (ns.map V.int) ∧ OkL ns ∧ Tabs (tabs K) H ∧ ∀ H', ExtN H H' → Tabs (tabs K) H' → Q (.bl true) H'
def sp__law_by_hand (K : PySem.W.Frag) : Sp := fun vs H Q _ => vs = [] ∧ ∀ (a : Addr) (xs : List V) (H' : Hp), Same H H' → H' a = some (.lst xs) → DxAll K H' xs (hands.map intsD) → Q (.ref a) H'
def sp__law_others_right (K : PySem.W.Frag) : Sp := fun vs H Q _ => ∃ (b : V) (c : Int) (ps : Bag), vs = [.int c, b] ∧ Dp K H b (bagD ps) ∧ SumV c ps ∧ (∀ p ∈ ps, p.2 ≤ 10 ^ 30) ∧ Tabs (tabs K) H ∧ ∀ H', ExtN H H' → Tabs (tabs K) H' → Q (.bl true) H'
def sp__law_right (K : PySem.W.Frag) : Sp := fun vs H Q _ => ∃ (p q : Addr), vs = [.ref p, .ref q] ∧ H p = some (poolO p) ∧ SqL K H q ((List.range 256).map fun i => V.byt (byteArr [((i : Nat) : Int)])) ∧ Tabs (tabs K) H ∧ ∀ H', ExtN H H' → Tabs (tabs K) H' → Q (.bl true) H'
def sp_law (K : PySem.W.Frag) : Sp := fun vs H Q _ => ∃ (a : Addr) (ns : List Int), vs = [.ref a] ∧ SqL K H a (ns.map V.int) ∧ ns.length ≤ 63 ∧ Tabs (tabs K) H ∧ ∀ H', Q (.bl true) H'
theorem ok_is_whole {P : Program} {w : World} {K : PySem.W.Frag} {mg : Str → Option Value} {base : Heap} (fr : Fre mg) (D : Dfd K mg "is_whole" s_is_whole) : Has P w K mg base CX0 1 "is_whole" s_is_whole ["thing"] (sp_is_whole K) := by
  refine D.has sc_is_whole (fun vs H Q E h => ?_) (fun cdv A outer s H vs Q E hr hg h => ?_)
  · obtain ⟨v, d, rfl, _⟩ := h; rfl
  · obtain ⟨v, d, rfl, hd, k⟩ := h
    have nd := sc_is_whole.nd
    refine ⟨_, PSs.nox (pss_one (ps_ret (pe_and (pe_callB (k_isi K) rfl fr.isinstance_ (by decide +kernel) (pa_cons (pv 0) (pa_cons (pe_bltn (v := .ty "int") rfl fr.int_ boot_int rfl) pa_nil))) (pe_one (pe_not (pe_callB (k_isi K) rfl fr.isinstance_ (by decide +kernel) (pa_cons (pv 0) (pa_cons (pe_bltn (v := .ty "bool") rfl fr.bool_ boot_bool rfl) pa_nil)))))))), ?_⟩
    try dsimp only [cxOf]
    tm_at "wp"
    refine w_isiX hd (isi_int d) ?_
    cases d
    all_goals first
      | (refine w_bl (w_iteF ?_); tm_at "wp"; exact k)
      | (refine w_bl (w_iteT ?_); tm_at "wp"; refine w_isiX hd (isi_bool _) ?_; tm_at "wp"; exact k)
theorem ok_is_from {P : Program} {w : World} {K : PySem.W.Frag} {mg : Str → Option Value} {base : Heap} (fr : Fre mg) (D : Dfd K mg "is_from" s_is_from)
    (h_is_whole : Has P w K mg base CX0 1 "is_whole" s_is_whole ["thing"] (sp_is_whole K)) : Has P w K mg base CX0 2 "is_from" s_is_from ["thing", "least"] (sp_is_from K) := by
  refine D.has sc_is_from (fun vs H Q E h => ?_) (fun cdv A outer s H vs Q E hr hg h => ?_)
  · obtain ⟨v, d, j, rfl, _⟩ := h; rfl
  · obtain ⟨v, d, j, rfl, hd, k⟩ := h
    have nd := sc_is_from.nd
    refine ⟨_, PSs.nox (pss_one (ps_ret (pe_and (pe_fn h_is_whole pb_is_whole (hr.mono (by decide)) hg rfl pass0 (pa_cons (pv 0) pa_nil)) (pe_one (pe_cmpR op_ge (pv 0) (pv 1) (nomark _)))))), ?_⟩
    try dsimp only [cxOf]
    tm_at "wp"
    refine ⟨v, d, rfl, hd, ?_⟩
    cases d
    case int i =>
      cases dx_int_inv hd
      refine w_bl (w_iteT ?_)
      tm_at "wp"
      exact k
    all_goals (refine w_bl (w_iteF ?_); tm_at "wp"; exact k)
theorem ok_is_between {P : Program} {w : World} {K : PySem.W.Frag} {mg : Str → Option Value} {base : Heap} (fr : Fre mg) (D : Dfd K mg "is_between" s_is_between)
    (h_is_whole : Has P w K mg base CX0 1 "is_whole" s_is_whole ["thing"] (sp_is_whole K)) : Has P w K mg base CX0 2 "is_between" s_is_between ["thing", "least", "most"] (sp_is_between K) := by
  refine D.has sc_is_between (fun vs H Q E h => ?_) (fun cdv A outer s H vs Q E hr hg h => ?_)
  · obtain ⟨v, d, i, j, rfl, _⟩ := h; rfl
  · obtain ⟨v, d, i, j, rfl, hd, k⟩ := h
    have nd := sc_is_between.nd
    refine ⟨_, PSs.nox (pss_one (ps_ret (pe_and (pe_fn h_is_whole pb_is_whole (hr.mono (by decide)) hg rfl pass0 (pa_cons (pv 0) pa_nil)) (pe_one (pe_chain op_le op_le (pv 1) (pv 0) (pv 2)))))), ?_⟩
    try dsimp only [cxOf]
    tm_at "wp"
    refine ⟨v, d, rfl, hd, ?_⟩
    cases d
    case int n =>
      cases dx_int_inv hd
      refine w_bl (w_iteT ?_)
      tm_at "wp"
      refine w_ited (fun h => ?_) (fun h => ?_)
      · tm_at "wp"
        have e : betD (.int n) i j = decide (n ≤ j) := by show (decide (i ≤ n) && decide (n ≤ j)) = _; rw [decide_eq_true h]; rfl
        rw [e] at k
        exact k
      · have e : betD (.int n) i j = false := by show (decide (i ≤ n) && decide (n ≤ j)) = _; rw [decide_eq_false h]; rfl
        rw [e] at k
        exact k
    all_goals (refine w_bl (w_iteF ?_); tm_at "wp"; exact k)
theorem ok_is_capacity {P : Program} {w : World} {K : PySem.W.Frag} {mg : Str → Option Value} {base : Heap} (fr : Fre mg) (c_MAX_CAPACITY : ∃ t, mg "MAX_CAPACITY" = some (.int 8 t)) (D : Dfd K mg "is_capacity" s_is_capacity)
    (h_is_between : Has P w K mg base CX0 2 "is_between" s_is_between ["thing", "least", "most"] (sp_is_between K)) : Has P w K mg base CX0 3 "is_capacity" s_is_capacity ["thing"] (sp_is_capacity K) := by
  refine D.has sc_is_capacity (fun vs H Q E h => ?_) (fun cdv A outer s H vs Q E hr hg h => ?_)
  · obtain ⟨v, d, rfl, _⟩ := h; rfl
  · obtain ⟨v, d, rfl, hd, k⟩ := h
    obtain ⟨_, g_MAX_CAPACITY⟩ := c_MAX_CAPACITY
    have nd := sc_is_capacity.nd
    refine ⟨_, PSs.nox (pss_one (ps_ret (pe_fn h_is_between pb_is_between (hr.mono (by decide)) hg rfl pass0 (pa_cons (pv 0) (pa_cons pe_int (pa_cons (pe_glob (v := .int 8) rfl g_MAX_CAPACITY ⟨_, rfl⟩) pa_nil)))))), ?_⟩
    try dsimp only [cxOf]
    tm_at "wp"
    exact ⟨v, d, 1, 8, rfl, hd, k⟩
theorem ok_is_name {P : Program} {w : World} {K : PySem.W.Frag} {mg : Str → Option Value} {base : Heap} (fr : Fre mg) (c_LETTERS : ∃ t, mg "LETTERS" = some (.str "abcdefghijklmnopqrstuvwxyz" t)) (D : Dfd K mg "is_name" s_is_name) : Has P w K mg base CX0 1 "is_name" s_is_name ["thing"] (sp_is_name K) := by
  refine D.has sc_is_name (fun vs H Q E h => ?_) (fun cdv A outer s H vs Q E hr hg h => ?_)
  · obtain ⟨v, d, rfl, _⟩ := h; rfl
  · obtain ⟨v, d, rfl, hd, hz, k⟩ := h
    obtain ⟨_, g_LETTERS⟩ := c_LETTERS
    have nd := sc_is_name.nd
    refine ⟨_, PSs.nox (pss_one (ps_ret (pe_and (pe_callB (k_isi K) rfl fr.isinstance_ (by decide +kernel) (pa_cons (pv 0) (pa_cons (pe_bltn (v := .ty "str") rfl fr.str_ boot_str rfl) pa_nil))) (pe_and (pe_chain op_lt op_lt pe_int (pe_callB (k_len K) rfl fr.len_ (by decide +kernel) (pa_cons (pv 0) pa_nil)) pe_int) (pe_one (pe_callB (k_all K rfl) rfl fr.all_ (by decide +kernel) (pa_cons (pe_lc (own := [("letter", 1)]) (g := gName 1) (tt := tYes) rfl nd (pi_str (pv 0)) (blkOk_by (own := [("letter", 1)]) (N := N_is_name) (sc := defScope s_is_name) (by decide +kernel)) (fun _ _ _ _ _ => (pg_name (i := 1) nd rfl (Or.inl rfl))) (fun _ _ _ _ _ => pts_nil) (fun _ _ _ _ _ => (pe_cmpR o_inSign (pv 1) (pe_glob (v := .str "abcdefghijklmnopqrstuvwxyz") rfl g_LETTERS ⟨_, rfl⟩) rfl))) pa_nil))))))), ?_⟩
    try dsimp only [cxOf]
    tm_at "wp"
    refine w_isiX hd (isi_str d) ?_
    cases d
    case str x =>
      cases dx_str_inv hd
      have hx : x.length ≤ 100000 := by simpa [szD] using hz
      have kk : ∀ H' b, Same H H' → b = isName x → Q (.bl b) H' := fun H' b s e => by rw [e]; exact k H' s
      refine w_bl (w_iteT ?_)
      tm_at "wp"
      refine w_lenS (sz_le hx) ?_
      tm_at "wp"
      refine w_ited (fun h1 => ?_) (fun h1 => ?_)
      · tm_at "wp"
        refine w_iteb (fun h2 => ?_) (fun h2 => ?_)
        · tm_at "wp"
          intro D0 hD
          refine lc_map walk_str (n := x.cps.size) (by have : x.length = x.cps.size := rfl; omega) (fun i y => ∃ c, x.cps.toList[i]? = some c ∧ y = .bl (isLet c)) hD (fun _ _ => trivial) ?_ ?_ mono_gname
          · rintro i y H1 H2 hi s ⟨rfl, c, hc, rfl⟩ Qy hq
            refine w_gname ⟨rfl, ?_⟩
            tm_at "wp"
            refine hq _ _ (Same.refl _) ⟨c, by simpa using hc, ?_⟩
            show V.bl (decide (c ∈ letters.cps.toList)) = _
            rw [mem_letters]
          · intro acc H1 s _ hacc hl hf
            have e : acc = (x.cps.toList.map isLet).map V.bl := by
              rw [List.map_map]
              exact acc_map (by simpa using hl) hf
            rw [e] at hacc
            refine w_all (SqL.of hacc) ?_
            refine kk _ _ s ?_
            rw [all_map_id]
            unfold isName
            rw [decide_eq_true (show 0 < x.length by omega), decide_eq_true (show x.length < 9 by have := of_decide_eq_true h2; omega)]
            simp
        · refine kk _ _ (Same.refl _) ?_
          unfold isName
          rw [decide_eq_false (show ¬ x.length < 9 by have := of_decide_eq_false h2; omega)]
          simp
      · refine w_bl (w_iteF ?_)
        refine kk _ _ (Same.refl _) ?_
        unfold isName
        rw [decide_eq_false (show ¬ 0 < x.length by omega)]
        simp
    all_goals (refine w_bl (w_iteF ?_); tm_at "wp"; exact k _ (Same.refl _))
theorem ok_is_run {P : Program} {w : World} {K : PySem.W.Frag} {mg : Str → Option Value} {base : Heap} (fr : Fre mg) (D : Dfd K mg "is_run" s_is_run)
    (h_is_from : Has P w K mg base CX0 2 "is_from" s_is_from ["thing", "least"] (sp_is_from K))
    (h_is_name : Has P w K mg base CX0 1 "is_name" s_is_name ["thing"] (sp_is_name K)) : Has P w K mg base CX0 3 "is_run" s_is_run ["thing"] (sp_is_run K) := by
  refine D.has sc_is_run (fun vs H Q E h => ?_) (fun cdv A outer s H vs Q E hr hg h => ?_)
  · obtain ⟨v, d, rfl, _⟩ := h; rfl
  · obtain ⟨v, d, rfl, hd, hz, k⟩ := h
    have nd := sc_is_run.nd
    refine ⟨_, PSs.nox (pss_one (ps_ret (pe_and (pe_callB (k_isi K) rfl fr.isinstance_ (by decide +kernel) (pa_cons (pv 0) (pa_cons (pe_bltn (v := .ty "tuple") rfl fr.tuple_ boot_tuple rfl) pa_nil))) (pe_and (pe_cmpR op_eq (pe_callB (k_len K) rfl fr.len_ (by decide +kernel) (pa_cons (pv 0) pa_nil)) pe_int (nomark _)) (pe_and (pe_fn h_is_name pb_is_name (hr.mono (by decide)) hg rfl pass0 (pa_cons (pe_ix (k_ixT K) (pv 0) pe_int (fun _ _ => rfl)) pa_nil)) (pe_one (pe_fn h_is_from pb_is_from (hr.mono (by decide)) hg rfl pass0 (pa_cons (pe_ix (k_ixT K) (pv 0) pe_int (fun _ _ => rfl)) (pa_cons pe_int pa_nil))))))))), ?_⟩
    try dsimp only [cxOf]
    tm_at "wp"
    refine w_isiX hd (isi_tup d) ?_
    cases d
    case tuple ds =>
      obtain ⟨a, xs, rfl, hs, hx⟩ := dx_tup_inv hd
      have hl := dxs_len hx
      refine w_bl (w_iteT ?_)
      tm_at "wp"
      refine w_lenT hs ?_
      tm_at "wp"
      refine w_ited (fun h1 => ?_) (fun h1 => ?_)
      · obtain ⟨d0, d1, rfl⟩ : ∃ d0 d1, ds = [d0, d1] := by
          match ds, (by omega : ds.length = 2) with
          | [d0, d1], _ => exact ⟨d0, d1, rfl⟩
        cases hx with
        | @cons v0 _ _ _ r0 hx =>
        cases hx with
        | @cons v1 _ _ _ r1 hx =>
        cases hx
        have z0 : szD d0 = true := szDs_get (ds := [d0, d1]) (i := 0) (by simpa [szD] using hz) rfl
        tm_at "wp"
        refine w_ixT hs (v := v0) rfl ?_
        tm_at "wp"
        refine ⟨v0, d0, rfl, r0, z0, fun H1 s1 => ?_⟩
        refine w_bl (w_iteb (fun h3 => ?_) (fun h3 => ?_))
        · tm_at "wp"
          refine w_ixT (sqt_same s1 hs) (v := v1) rfl ?_
          tm_at "wp"
          refine ⟨v1, d1, 1, rfl, dx_same s1 r1, ?_⟩
          have e : runD (.tuple [d0, d1]) = fromD d1 1 := by show (nameD d0 && fromD d1 1) = _; rw [h3]; rfl
          rw [e] at k
          exact k _ s1
        · have e : runD (.tuple [d0, d1]) = false := by show (nameD d0 && fromD d1 1) = _; rw [h3]; rfl
          rw [e] at k
          exact k _ s1
      · have e : runD (.tuple ds) = false := by
          unfold runD
          split
          · exfalso; rename_i heq; injection heq with heq; subst heq; exact h1 (by rw [hl]; rfl)
          · rfl
        rw [e] at k
        tm_at "wp"
        exact k _ (Same.refl _)
    all_goals (refine w_bl (w_iteF ?_); tm_at "wp"; exact k _ (Same.refl _))
theorem ok_first_invalid {P : Program} {w : World} {K : PySem.W.Frag} {mg : Str → Option Value} {base : Heap} (fr : Fre mg) (D : Dfd K mg "first_invalid" s_first_invalid)
    (h_is_run : Has P w K mg base CX0 3 "is_run" s_is_run ["thing"] (sp_is_run K)) : Has P w K mg base CX0 4 "first_invalid" s_first_invalid ["thing", "most"] (sp_first_invalid K) := by
  refine D.has sc_first_invalid (fun vs H Q E h => ?_) (fun cdv A outer s H vs Q E hr hg h => ?_)
  · obtain ⟨v, ds, m, rfl, _⟩ := h; rfl
  · obtain ⟨v, ds, m, rfl, hd, hz, k⟩ := h
    have nd := sc_first_invalid.nd
    refine ⟨_, PSs.nox (pss_cons (ps_for PassesOwn.never rfl (k_iEnumT K rfl fr.enumerate_ (pa_cons (pv 0) pa_nil)) (k_gtup K (n := 2) rfl (pgs_cons (pg_name (i := 2) nd rfl (Or.inl rfl)) (pgs_cons (pg_name (i := 3) nd rfl (Or.inl rfl)) pgs_nil)))
        (pss_one (ps_if (PW.pt (pw_or (pt_cmpR op_ge (pv 2) (pv 1) (nomark _)) (pw_or (pt_not (pt_val (pe_fn h_is_run pb_is_run (hr.mono (by decide)) hg rfl pass0 (pa_cons (pv 3) pa_nil)))) (pw_or1 (PW.pt (pw_and (pt_cmpR op_gt (pv 2) pe_int (nomark _)) (pw_and1 (pt_cmpR o_leS (pe_ix (k_ixT K) (pv 3) pe_int (fun _ _ => rfl)) (pe_ix (k_ixT K) (pe_ix (k_ixT K) (pv 0) (pe_op op_sub (pv 2) pe_int) (fun _ _ => rfl)) pe_int (fun _ _ => rfl)) (nomark _))))))))) (pss_one (ps_ret (pv 2))) pss_nil)))
      (pss_one (ps_ret pe_non))), ?_⟩
    try dsimp only [cxOf]
    obtain ⟨a, xs, rfl, hs, hx⟩ := dx_tup_inv hd
    have hl := dxs_len hx
    tm_at "wp"
    refine w_onE hs ?_
    refine for_go (walk_enumT (xs := xs)) (fun i σ H' => ∃ u w, σ = [some (.ref a), some (.int m), u, w] ∧ Same H H' ∧ ∀ j, j < i → badAt ds m j = false) ⟨none, none, rfl, Same.refl _, fun j h => by omega⟩ (fun i σ H' _ ⟨_, _, _, s, _⟩ => sqt_same s hs) ?_ ?_
    · rintro i v σ H1 H2 hi ⟨u, w, rfl, s1, hp⟩ ⟨T, y, x, rfl, hT, rfl, ey, ex⟩
      cases (Option.some.inj ey)
      obtain ⟨d, e1, e2⟩ := dxs_get hx ex
      have hgd := getD_of e1
      have s2 : Same H (upd H1 T (.tup [.int (i : Nat), x])) := same_step s1 hT
      refine w_gtup (SqT.of upd_same) rfl ?_
      tm_at "wp"
      have hbad : ∀ c, badAt ds m i = c → c = (decide (m ≤ (i : Int)) || (!runD d || (decide (0 < i) && !decide (ltS (nmD (ds.getD (i - 1) .none)) (nmD d))))) := fun c e => by rw [← e]; unfold badAt; rw [hgd]
      have ret : badAt ds m i = true → ∀ H', Same H H' → Q (.int (i : Nat)) H' := fun hb H' s' => by
        have e := firstBad_some (by omega) hb hp
        rw [e] at k
        exact k H' s'
      have nxt : badAt ds m i = false → ∀ j, j < i + 1 → badAt ds m j = false := fun hb j hj => by
        by_cases e : j = i
        · rw [e]; exact hb
        · exact hp j (by omega)
      refine w_ited (fun h1 => ?_) (fun h1 => ?_)
      · tm_at "wp"
        refine ret ?_ _ s2
        unfold badAt
        rw [decide_eq_true h1]; rfl
      · tm_at "wp"
        refine ⟨x, d, rfl, dx_same s2 e2, szDs_get hz e1, fun H3 s3 => ?_⟩
        have s4 := s2.trans s3
        refine w_bl ?_
        refine w_itenb (fun h2 => ?_) (fun h2 => ?_)
        · tm_at "wp"
          refine ret ?_ _ s4
          unfold badAt
          rw [hgd, h2]; simp
        · tm_at "wp"
          obtain ⟨b, nx, wx, rfl, hb, en⟩ := run_inv e2 h2
          refine w_ited (fun h3 => ?_) (fun h3 => ?_)
          · tm_at "wp"
            refine w_ixT (sqt_same s4 hb) (v := .str nx) rfl ?_
            tm_at "wp"
            have hi0 : i - 1 < ds.length := by omega
            have g0 : badAt ds m (i - 1) = false := hp (i - 1) (by omega)
            obtain ⟨v1, q1, q2⟩ := dxs_get' hx (List.getElem?_eq_getElem hi0)
            have r1 : runD ds[i - 1] = true := by
              unfold badAt at g0
              rw [getD_of (List.getElem?_eq_getElem hi0)] at g0
              cases z : runD ds[i - 1]
              · rw [z] at g0; simp at g0
              · rfl
            obtain ⟨b1, nx1, wx1, rfl, hb1, en1⟩ := run_inv q2 r1
            refine w_ixT (sqt_same s4 hs) (v := .ref b1) ?_ ?_
            · have e : ((i : Nat) : Int) - 1 = ((i - 1 : Nat) : Int) := by omega
              rw [e]; exact atI_nat q1
            tm_at "wp"
            refine w_ixT (sqt_same s4 hb1) (v := .str nx1) rfl ?_
            tm_at "wp"
            have key : badAt ds m i = !decide (ltS nx1 nx) := by
              unfold badAt
              rw [hgd, getD_of (List.getElem?_eq_getElem hi0), h2, en, en1, decide_eq_false h1, decide_eq_true (show 0 < i by omega)]
              simp
            refine w_iten (fun h4 => ?_) (fun h4 => ?_)
            · tm_at "wp"
              refine ret ?_ _ s4
              rw [key, decide_eq_false (show ¬ ltS nx1 nx from h4)]; rfl
            · tm_at "wp"
              refine ⟨_, _, rfl, s4, nxt ?_⟩
              rw [key, decide_eq_true (show ltS nx1 nx from h4)]; rfl
          · tm_at "wp"
            refine ⟨_, _, rfl, s4, nxt ?_⟩
            unfold badAt
            rw [hgd, h2, decide_eq_false h1, decide_eq_false (show ¬ 0 < i by omega)]; rfl
    · rintro σ H1 ⟨u, w, rfl, s1, hp⟩
      tm_at "wp"
      have e := firstBad_none (ds := ds) (m := m) fun j hj => hp j (by omega)
      rw [e] at k
      exact k _ s1
theorem ok_check_capacity {P : Program} {w : World} {K : PySem.W.Frag} {mg : Str → Option Value} {base : Heap} (fr : Fre mg) (x_InvalidCapacity : HasX P w K mg base "InvalidCapacity" "capacity") (D : Dfd K mg "check_capacity" s_check_capacity)
    (h_is_capacity : Has P w K mg base CX0 3 "is_capacity" s_is_capacity ["thing"] (sp_is_capacity K)) : Has P w K mg base (L2.CX P w) 4 "check_capacity" s_check_capacity ["thing"] (sp_check_capacity K) := by
  refine D.has sc_check_capacity (fun vs H Q E h => ?_) (fun cdv A outer s H vs Q E hr hg h => ?_)
  · obtain ⟨v, d, rfl, _⟩ := h; rfl
  · obtain ⟨v, d, rfl, hd, k, kE⟩ := h
    have nd := sc_check_capacity.nd
    refine ⟨_, (pss_one (ps_if (pt_not (pt_val (pe_fn h_is_capacity pb_is_capacity (hr.mono (by decide)) hg rfl pass0 (pa_cons (pv 0) pa_nil)))) (pss_one (ps_rai K x_InvalidCapacity rfl takesE (hr.mono (by decide)) rfl (pv 0))) pss_nil)), ?_⟩
    try dsimp only [cxOf]
    tm_at "wp"
    refine ⟨v, d, rfl, hd, ?_⟩
    refine w_bl ?_
    cases hb : betD d 1 8 with
    | true =>
      rw [if_neg (by decide)]
      tm_at "wp"
      exact k hb
    | false =>
      rw [if_pos (by rfl)]
      refine w_rai ?_
      tm_at "wp"
      exact w_raic fun dx hdx => kE hb dx _ (same_new hdx) upd_same
theorem ok_counts_text {P : Program} {w : World} {K : PySem.W.Frag} {mg : Str → Option Value} {base : Heap} (fr : Fre mg) (D : Dfd K mg "counts_text" s_counts_text) : HasA P w K mg base CX0 1 "counts_text" s_counts_text ["counts"] (sp_counts_text K) := by
  refine D.hasA sc_counts_text (fun vs H Q E h => ?_) (fun cdv A outer s H vs Q E hr h => ?_)
  · obtain ⟨v, ps, rfl, _⟩ := h; rfl
  · obtain ⟨v, ps, rfl, hd, hb, hn, k⟩ := h
    have nd := sc_counts_text.nd
    refine ⟨_, PSs.nox (pss_one (ps_ret (k_orT K (k_join K pe_str (pe_lc (own := [("name", 1), ("count", 2)]) (g := gTup K 2 (gCons (gName 1) (gCons (gName 2) gNil))) (tt := tYes) rfl nd (k_iTup K (pv 0)) (blkOk_by (own := [("name", 1), ("count", 2)]) (N := N_counts_text) (sc := defScope s_counts_text) (by decide +kernel)) (fun _ _ _ _ _ => (k_gtup K (n := 2) rfl (pgs_cons (pg_name (i := 1) nd rfl (Or.inl rfl)) (pgs_cons (pg_name (i := 2) nd rfl (Or.inl rfl)) pgs_nil)))) (fun _ _ _ _ _ => pts_nil) (fun _ _ _ _ _ => (k_joined (.cons (pe_fmt (pv 1)) (.cons pe_str (.cons (pe_fmt (pv 2)) .nil))))))) (pe_one pe_str)))), ?_⟩
    try dsimp only [cxOf]
    obtain ⟨a, xs, rfl, hs, hx, hl⟩ := bag_inv hd
    tm_at "wp"
    refine w_onT hs ?_
    intro D0 hD
    refine lc_map walk_tup (n := xs.length) (by omega) (fun i y => ∃ p, ps[i]? = some p ∧ y = .str (ptS p)) hD (fun _ s => sqt_same s hs) ?_ ?_ mono_gpair
    · rintro i y H1 H2 hi s ⟨rfl, hy⟩ Qy hq
      obtain ⟨p, b, e1, rfl, hb'⟩ := bag_get hx hy
      obtain ⟨h1, h2, h3⟩ := hb p (List.mem_of_getElem? e1)
      have hpl := (ptS_len h1 h2 h3).2
      have hnl := (isName_len h1).2
      refine w_gtup (sqt_same s hb') rfl ?_
      tm_at "wp"
      refine ⟨rfl, ?_⟩
      tm_at "wp"
      refine w_fmtS (by omega) ?_
      refine w_jsc (by rw [empty_app]; omega) ?_
      rw [empty_app]
      tm_at "wp"
      refine w_jsc (by rw [app_len]; have : Str.length (":" : Str) = 1 := (by decide +kernel); omega) ?_
      tm_at "wp"
      refine w_fmtI h2 h3 ?_
      refine w_jsc (by show (ptS p).length ≤ _; omega) ?_
      tm_at "wp"
      exact hq _ _ (Same.refl _) ⟨p, e1, rfl⟩
    · intro acc H1 s _ hacc hl2 hf
      have e : acc = (ps.map ptS).map V.str := by
        rw [List.map_map]
        exact acc_map (by omega) hf
      rw [e] at hacc
      have hj := parts_len hb
      have hjl := join_len hb
      refine w_join (SqL.of hacc) (by omega) ?_
      refine w_orcS (by omega) (fun h1 => ?_) (fun h0 => ?_)
      · have ne : ps ≠ [] := fun z => by subst z; exact absurd h1 (by decide +kernel)
        have ec : cText ps = Txt.join (" " : Str) (ps.map ptS) := by unfold cText; rw [if_neg ne]
        rw [← ec]
        exact k _ s
      · have ee : ps = [] := Classical.byContradiction fun z => by have := join_ne hb z; omega
        tm_at "wp"
        have ec : cText ps = "-" := by unfold cText; rw [if_pos ee]
        have := k _ s
        rw [ec] at this
        exact this
theorem ok_Summary___init__ {P : Program} {w : World} {K : PySem.W.Frag} {mg : Str → Option Value} {base : Heap} (fr : Fre mg) (cl_Summary : ClsF K mg "Summary" ["capacity", "counts", "__bool__"]) (et_Summary___init___0 : ∀ H : Hp, SqT K H (dflA "Summary" "__init__" 0 K) []) (x_InvalidSummary : HasX P w K mg base "InvalidSummary" "index") (D : DfdM K "Summary" "__init__" "Summary.__init__" s_Summary___init__ [.ref (dflA "Summary" "__init__" 0 K)])
    (h_check_capacity : Has P w K mg base (L2.CX P w) 4 "check_capacity" s_check_capacity ["thing"] (sp_check_capacity K))
    (h_first_invalid : Has P w K mg base CX0 4 "first_invalid" s_first_invalid ["thing", "most"] (sp_first_invalid K)) : HasM P w K mg base (L2.CX P w) 5 "Summary" "__init__" "Summary.__init__" s_Summary___init__ [.ref (dflA "Summary" "__init__" 0 K)] ["self", "capacity", "counts"] (sp_Summary___init__ K) := by
  refine D.has sc_Summary___init__ (fun vs H Q E h => ?_) (fun cdv A outer s H vs Q E hr hg h => ?_)
  · obtain ⟨x, dx, v1, v2, d1, d2, rfl, _⟩ := h; rfl
  · obtain ⟨x, dx, v1, v2, d1, d2, rfl, hx, h1, h2, hz, kC, k⟩ := h
    have nd := sc_Summary___init__.nd
    refine ⟨_, (pss_cons (ps_expr (pe_fn h_check_capacity pb_check_capacity (hr.mono (by decide)) hg rfl (passE takesE) (pa_cons (pv 1) pa_nil)))
      (pss_cons (ps_if (pt_not (pt_val (pe_callB (k_isi K) rfl fr.isinstance_ (by decide +kernel) (pa_cons (pv 2) (pa_cons (pe_bltn (v := .ty "tuple") rfl fr.tuple_ boot_tuple rfl) pa_nil))))) (pss_one (ps_rai K x_InvalidSummary rfl takesE (hr.mono (by decide)) rfl pe_non)) pss_nil)
      (pss_cons (ps_set (i := 3) nd rfl (Or.inl rfl) (pe_fn h_first_invalid pb_first_invalid (hr.mono (by decide)) hg rfl pass0 (pa_cons (pv 2) (pa_cons (pv 1) pa_nil))))
      (pss_cons (ps_if (pt_cmpR o_notN (pv 3) pe_non (nomark _)) (pss_one (ps_rai K x_InvalidSummary rfl takesE (hr.mono (by decide)) rfl (pv 3))) pss_nil)
      (pss_cons (k_sfld K (pv 0) (pv 1) rfl)
      (pss_one (k_sfld K (pv 0) (pv 2) rfl))))))), ?_⟩
    try dsimp only [cxOf]
    tm_at "wp"
    refine ⟨v1, d1, rfl, h1, fun hb => ?_, kC⟩
    obtain ⟨c, rfl, c1, c8⟩ : ∃ c, d1 = .int c ∧ 1 ≤ c ∧ c ≤ 8 := by
      cases d1 with
      | int c =>
        have hb : (decide (1 ≤ c) && decide (c ≤ 8)) = true := hb
        rw [Bool.and_eq_true, decide_eq_true_eq, decide_eq_true_eq] at hb
        exact ⟨c, rfl, hb.1, hb.2⟩
      | _ => cases hb
    cases dx_int_inv h1
    obtain ⟨k1, k2⟩ := k c rfl c1 c8
    tm_at "wp"
    refine w_isiX h2 (isi_tup _) ?_
    refine w_bl ?_
    cases d2
    case tuple ds =>
      rw [show (!isTupD (.tuple ds)) = false from rfl, if_neg (by decide)]
      tm_at "wp"
      refine ⟨v2, ds, c, rfl, h2, by simpa [szD] using hz, fun H1 s1 => ?_⟩
      cases e : firstBad ds c with
      | none =>
        tm_at "wp"
        rw [show optV none = V.non from rfl, decide_eq_true rfl, if_neg (by decide)]
        tm_at "wp"
        refine w_setc cl_Summary (by decide) (s1 _ _ hx) (by decide) ?_
        tm_at "wp"
        refine w_setc cl_Summary (by decide) upd_same (show (1 : Nat) < 1000 by decide) ?_
        tm_at "wp"
        refine k1 (by show (firstBad ds c).isNone = true; rw [e]; rfl) _ (fun z o ne e => ?_) upd_same
        rw [upd_ne ne, upd_ne ne]
        exact s1 z o e
      | some i =>
        tm_at "wp"
        rw [decide_eq_false (show optV (some i) ≠ V.non from nofun), if_pos (by rfl)]
        refine w_rai ?_
        tm_at "wp"
        refine w_raic fun dx hdx => k2 (by show (firstBad ds c).isNone = false; rw [e]; rfl) dx _ (same_step s1 hdx) ?_
        rw [upd_same, show verV (badF c) (.tuple ds) = optV (firstBad ds c) from rfl, e]
    all_goals
      rw [if_pos (by rfl)]
      refine w_rai ?_
      tm_at "wp"
      exact w_raic fun dx hdx => k2 rfl dx _ (same_new hdx) upd_same
theorem ok_Summary___str__ {P : Program} {w : World} {K : PySem.W.Frag} {mg : Str → Option Value} {base : Heap} (fr : Fre mg) (cl_Summary : ClsF K mg "Summary" ["capacity", "counts", "__bool__"]) (et_Summary___init___0 : ∀ H : Hp, SqT K H (dflA "Summary" "__init__" 0 K) []) (D : DfdM K "Summary" "__str__" "Summary.__str__" s_Summary___str__ [])
    (h_counts_text : HasA P w K mg base CX0 1 "counts_text" s_counts_text ["counts"] (sp_counts_text K)) : HasM P w K mg base CX0 2 "Summary" "__str__" "Summary.__str__" s_Summary___str__ [] ["self"] (sp_Summary___str__ K) := by
  refine D.has sc_Summary___str__ (fun vs H Q E h => ?_) (fun cdv A outer s H vs Q E hr hg h => ?_)
  · obtain ⟨v, c, ps, rfl, _⟩ := h; rfl
  · obtain ⟨v, c, ps, rfl, ho, hv, hb, k⟩ := h
    have nd := sc_Summary___str__.nd
    refine ⟨_, PSs.nox (pss_one (ps_ret (pe_callTy c_strS rfl fr.str_ (by decide +kernel) (pa_cons (pe_fn h_counts_text.has pb_counts_text (hr.mono (by decide)) hg rfl pass0 (pa_cons (k_fld K (pv 0) rfl) pa_nil)) pa_nil)))), ?_⟩
    try dsimp only [cxOf]
    have hlen := hv.len
    have h8 := hv.c8
    tm_at "wp"
    refine w_sumCnt cl_Summary ho fun b hbd => ?_
    tm_at "wp"
    refine ⟨b, ps, rfl, hbd, hb, by omega, fun H1 s1 => ?_⟩
    tm_at "wp"
    exact k _ s1
theorem ok_Summary___repr__ {P : Program} {w : World} {K : PySem.W.Frag} {mg : Str → Option Value} {base : Heap} (fr : Fre mg) (cl_Summary : ClsF K mg "Summary" ["capacity", "counts", "__bool__"]) (et_Summary___init___0 : ∀ H : Hp, SqT K H (dflA "Summary" "__init__" 0 K) []) (D : DfdM K "Summary" "__repr__" "Summary.__repr__" s_Summary___repr__ [])
    (h_counts_text : HasA P w K mg base CX0 1 "counts_text" s_counts_text ["counts"] (sp_counts_text K)) : HasMA P w K mg base CX0 2 "Summary" "__repr__" "Summary.__repr__" s_Summary___repr__ [] ["self"] (sp_Summary___repr__ K) := by
  refine D.hasA sc_Summary___repr__ (fun vs H Q E h => ?_) (fun cdv A outer s H vs Q E hr h => ?_)
  · obtain ⟨v, c, ps, rfl, _⟩ := h; rfl
  · obtain ⟨v, c, ps, rfl, ho, hv, hb, k⟩ := h
    have nd := sc_Summary___repr__.nd
    refine ⟨_, PSs.nox (pss_one (ps_ret (k_joined (.cons pe_str (.cons (pe_fmt (k_fld K (pv 0) rfl)) (.cons pe_str (.cons (pe_fmt (pe_fnA h_counts_text pb_counts_text (hr.mono (by decide)) rfl pass0 (pa_cons (k_fld K (pv 0) rfl) pa_nil))) (.cons pe_str .nil)))))))), ?_⟩
    try dsimp only [cxOf]
    have hlen := hv.len
    have h8 := hv.c8
    have h1 := hv.c1
    have hi := intS_len (i := c) (by omega) (by omega)
    have hc := cText_len hb
    have l1 : Str.length ("Summary(" : Str) = 8 := by decide +kernel
    have l2 : Str.length (", '" : Str) = 3 := by decide +kernel
    have l3 : Str.length ("')" : Str) = 2 := by decide +kernel
    tm_at "wp"
    refine w_jsc (by rw [empty_app]; omega) ?_
    rw [empty_app]
    tm_at "wp"
    refine w_sumCap cl_Summary ho ?_
    refine w_fmtI (by omega) (by omega) ?_
    refine w_jsc (by rw [app_len]; omega) ?_
    tm_at "wp"
    refine w_jsc (by rw [app_len, app_len]; omega) ?_
    tm_at "wp"
    refine w_sumCnt cl_Summary ho fun b hbd => ?_
    tm_at "wp"
    refine ⟨b, ps, rfl, hbd, hb, by omega, fun H1 s1 => ?_⟩
    refine w_fmtS (by omega) ?_
    refine w_jsc (by rw [app_len, app_len, app_len]; omega) ?_
    tm_at "wp"
    refine w_jsc (by rw [app_len, app_len, app_len, app_len]; omega) ?_
    tm_at "wp"
    exact k _ s1
theorem ok_is_summary {P : Program} {w : World} {K : PySem.W.Frag} {mg : Str → Option Value} {base : Heap} (fr : Fre mg) (cl_Summary : ClsF K mg "Summary" ["capacity", "counts", "__bool__"]) (et_Summary___init___0 : ∀ H : Hp, SqT K H (dflA "Summary" "__init__" 0 K) []) (D : Dfd K mg "is_summary" s_is_summary) : Has P w K mg base CX0 1 "is_summary" s_is_summary ["thing"] (sp_is_summary K) := by
  refine D.has sc_is_summary (fun vs H Q E h => ?_) (fun cdv A outer s H vs Q E hr hg h => ?_)
  · obtain ⟨v, b, rfl, _⟩ := h; rfl
  · obtain ⟨v, b, rfl, hb, k⟩ := h
    have nd := sc_is_summary.nd
    refine ⟨_, PSs.nox (pss_one (ps_ret (pe_callB (k_isi K) rfl fr.isinstance_ (by decide +kernel) (pa_cons (pv 0) (pa_cons (pe_glob (v := .ref (He.ga K "Summary")) rfl cl_Summary.glo rfl) pa_nil))))), ?_⟩
    try dsimp only [cxOf]
    tm_at "wp"
    rcases hb with ⟨rfl, c, ps, ho⟩ | ⟨rfl, h | ⟨z, rfl⟩⟩
    · exact w_isSum cl_Summary ho k
    · obtain ⟨T, hT, ht⟩ := h.ty
      exact ⟨_, _, _, _, false, rfl, .own _, ht, cl_Summary.kf _ hT, k⟩
    · exact ⟨_, _, _, _, false, rfl, .own _, .byt z, cl_Summary.fby, k⟩
theorem ok_check_summary {P : Program} {w : World} {K : PySem.W.Frag} {mg : Str → Option Value} {base : Heap} (fr : Fre mg) (x_NotASummary : HasX P w K mg base "NotASummary" "value") (D : Dfd K mg "check_summary" s_check_summary)
    (h_is_summary : Has P w K mg base CX0 1 "is_summary" s_is_summary ["thing"] (sp_is_summary K)) : Has P w K mg base (L2.CX P w) 4 "check_summary" s_check_summary ["thing"] (sp_check_summary K) := by
  refine D.has sc_check_summary (fun vs H Q E h => ?_) (fun cdv A outer s H vs Q E hr hg h => ?_)
  · obtain ⟨v, b, rfl, _⟩ := h; rfl
  · obtain ⟨v, b, rfl, h1, h2, k, kE⟩ := h
    have nd := sc_check_summary.nd
    refine ⟨_, (pss_one (ps_if (pt_not (pt_val (pe_fn h_is_summary pb_is_summary (hr.mono (by decide)) hg rfl pass0 (pa_cons (pv 0) pa_nil)))) (pss_one (ps_rai K x_NotASummary rfl takesE (hr.mono (by decide)) rfl (pv 0))) pss_nil)), ?_⟩
    try dsimp only [cxOf]
    tm_at "wp"
    cases b with
    | true =>
      obtain ⟨c, ps, ho⟩ := h1 rfl
      refine ⟨v, true, rfl, .inl ⟨rfl, c, ps, ho⟩, ?_⟩
      refine w_bl ?_
      rw [if_neg (by decide)]
      tm_at "wp"
      exact k rfl
    | false =>
      refine ⟨v, false, rfl, .inr ⟨rfl, h2 rfl⟩, ?_⟩
      refine w_bl ?_
      rw [if_pos (by rfl)]
      refine w_rai ?_
      tm_at "wp"
      exact w_raic fun dx hdx => kE rfl dx _ (same_new hdx) upd_same
theorem ok_summary_or_none {P : Program} {w : World} {K : PySem.W.Frag} {mg : Str → Option Value} {base : Heap} (fr : Fre mg) (cl_Summary : ClsF K mg "Summary" ["capacity", "counts", "__bool__"]) (et_Summary___init___0 : ∀ H : Hp, SqT K H (dflA "Summary" "__init__" 0 K) []) (x_InvalidSummary : HasX P w K mg base "InvalidSummary" "index") (xm_InvalidSummary_InvalidSummary : PySem.W.exmOne K (.ref (He.ga K "InvalidSummary")) (.ref (He.ga K "InvalidSummary")) = some true) (D : Dfd K mg "summary_or_none" s_summary_or_none)
    (h_Summary___init__ : HasM P w K mg base (L2.CX P w) 5 "Summary" "__init__" "Summary.__init__" s_Summary___init__ [.ref (dflA "Summary" "__init__" 0 K)] ["self", "capacity", "counts"] (sp_Summary___init__ K)) : Has P w K mg base CX0 7 "summary_or_none" s_summary_or_none ["capacity", "counts"] (sp_summary_or_none K) := by
  refine D.has sc_summary_or_none (fun vs H Q E h => ?_) (fun cdv A outer s H vs Q E hr hg h => ?_)
  · obtain ⟨c, v, d, rfl, _⟩ := h; rfl
  · obtain ⟨c, v, d, rfl, c1, c8, hd, hz, k, kN⟩ := h
    have nd := sc_summary_or_none.nd
    refine ⟨_, PSs.nox (pss_one (ps_try_mk K (X := (cxOf CX0 P _ K mg base N_summary_or_none "summary_or_none" (defScope s_summary_or_none) (He.ga K "summary_or_none") cdv A outer s H E).nox) (c := .ref (He.ga K "InvalidSummary")) cl_Summary h_Summary___init__ bj_Summary___init___3 (hr.mono (by decide)) hg rfl (fun pn xe => (pa_cons (pv 0) (pa_cons (pv 1) pa_nil))) (fun _ _ => rfl) rfl rfl ⟨rfl, by decide, .inl x_InvalidSummary.k.glo⟩ (fun a oe cls d pn _ _ => (pss_one (ps_ret pe_non))))), ?_⟩
    try dsimp only [cxOf]
    tm_at "wp"
    refine w_mkSumX (fun _ => rfl) (.int c) hd hz (fun hb => ?_) (fun c' e _ _ => ?_)
    · exfalso
      have : (decide (1 ≤ c) && decide (c ≤ 8)) = false := hb
      rw [decide_eq_true c1, decide_eq_true c8] at this
      cases this
    · cases e
      refine ⟨fun ho a dx H' s ha => k ho a dx H' s ha, fun hn dd H' s hdd => ?_⟩
      intro σ'
      refine ⟨true, xm_InvalidSummary_InvalidSummary, fun _ a _ => ?_, nofun⟩
      tm_at "wp"
      exact kN hn _ s
theorem ok_pack_summary {P : Program} {w : World} {K : PySem.W.Frag} {mg : Str → Option Value} {base : Heap} (fr : Fre mg) (cl_Summary : ClsF K mg "Summary" ["capacity", "counts", "__bool__"]) (et_Summary___init___0 : ∀ H : Hp, SqT K H (dflA "Summary" "__init__" 0 K) []) (D : Dfd K mg "pack_summary" s_pack_summary)
    (h_check_summary : Has P w K mg base (L2.CX P w) 4 "check_summary" s_check_summary ["thing"] (sp_check_summary K)) : Has P w K mg base (L2.CX P w) 5 "pack_summary" s_pack_summary ["summary"] (sp_pack_summary K) := by
  refine D.has sc_pack_summary (fun vs H Q E h => ?_) (fun cdv A outer s H vs Q E hr hg h => ?_)
  · obtain ⟨v, rfl, _⟩ := h; rfl
  · obtain ⟨v, rfl, hh⟩ := h
    have nd := sc_pack_summary.nd
    refine ⟨_, (pss_cons (ps_expr (pe_fn h_check_summary pb_check_summary (hr.mono (by decide)) hg rfl (passE takesE) (pa_cons (pv 0) pa_nil)))
      (pss_cons (ps_set (i := 1) nd rfl (Or.inl rfl) (pe_callTy (k_bytes K rfl) rfl fr.bytes_ (by decide +kernel) (pa_cons (pe_lst (pa_cons (k_fld K (pv 0) rfl) (pa_cons (pe_callB (k_len K) rfl fr.len_ (by decide +kernel) (pa_cons (k_fld K (pv 0) rfl) pa_nil)) pa_nil))) pa_nil)))
      (pss_cons (ps_for (passes_of rfl) rfl (k_iTup K (k_fld K (pv 0) rfl)) (k_gtup K (n := 2) rfl (pgs_cons (pg_name (i := 2) nd rfl (Or.inl rfl)) (pgs_cons (pg_name (i := 3) nd rfl (Or.inl rfl)) pgs_nil)))
        (pss_cons (ps_set (i := 4) nd rfl (Or.inl rfl) (pe_op op_fdiv (pe_op op_add (pe_bits (pv 3)) pe_int) pe_int))
      (pss_one (ps_aug (i := 1) nd rfl (Or.inl rfl) (pe_op o_addBy (pe_op o_addBy (pe_op o_addBy (pe_callTy (k_bytes K rfl) rfl fr.bytes_ (by decide +kernel) (pa_cons (pe_lst (pa_cons (pe_callB (k_len K) rfl fr.len_ (by decide +kernel) (pa_cons (pv 2) pa_nil)) pa_nil)) pa_nil)) (k_bm K PySem.F.plainAttrs_str PySem.F.slot_str_encode PySem.F.type_str_encode mt_enc7 (pv 2) (pa_cons pe_str pa_nil))) (pe_callTy (k_bytes K rfl) rfl fr.bytes_ (by decide +kernel) (pa_cons (pe_lst (pa_cons (pv 4) pa_nil)) pa_nil))) (pe_toBigW (pv 3) (pv 4) pe_str)) ip_addBy))))
      (pss_one (ps_ret (pv 1)))))), ?_⟩
    try dsimp only [cxOf]
    tm_at "wp"
    rcases hh with ⟨c, ps, ho, hv, hb, k⟩ | ⟨hn, kE⟩
    rotate_left
    · exact ⟨v, false, rfl, nofun, fun _ => hn, nofun, fun _ => kE⟩
    refine ⟨v, true, rfl, fun _ => ⟨c, ps, ho⟩, nofun, fun _ => ?_, nofun⟩
    tm_at "wp"
    refine w_sumCap cl_Summary ho ?_
    tm_at "wp"
    refine w_sumCnt cl_Summary ho fun b hd => ?_
    tm_at "wp"
    obtain ⟨a, xs, rfl, hs, hx, hl⟩ := bag_inv hd
    refine w_lenT hs ?_
    tm_at "wp"
    rename_i p hp
    have hxl : xs.length = ps.length := hl
    have hp8 : (ps.length : Int) ≤ 8 := Int.le_trans hv.len hv.c8
    have c1 := hv.c1
    have c8 := hv.c8
    refine w_bytes (ns := [c, (xs.length : Nat)]) (SqL.of upd_same) (fun n hn => ?_) ?_
    · rcases List.mem_cons.mp hn with rfl | hn
      · omega
      · rw [List.mem_singleton.mp hn]
        omega
    have s1 := same_new hp (u := HO.lst [V.int c, V.int ((xs.length : Nat) : Int)])
    generalize upd H p (HO.lst [V.int c, V.int ((xs.length : Nat) : Int)]) = H1 at *
    rw [hxl]
    tm_at "wp"
    refine w_sumCnt cl_Summary (sum_same s1 ho) fun b2 hd2 => ?_
    obtain ⟨a2, xs2, rfl, hs2, hx2, hl2⟩ := bag_inv hd2
    clear hd hs hx hxl hl
    tm_at "wp"
    refine w_onT hs2 ?_
    refine for_go (walk_tup (xs := xs2)) (fun i σ H' => ∃ u2 u3 u4, σ = [some v, some (.byt (byteArr ([c, ((ps.length : Nat) : Int)] ++ (ps.take i).flatMap rowP))), u2, u3, u4] ∧ Same H1 H') ⟨none, none, none, rfl, Same.refl _⟩ (fun i σ H' _ ⟨_, _, _, _, s⟩ => sqt_same s hs2) ?_ ?_
    rotate_left
    · rintro σ H3 ⟨u2, u3, u4, rfl, s3⟩
      rw [List.take_of_length_le (by omega)]
      tm_at "wp"
      exact k _ (s1.trans s3)
    rintro i y σ H2 H3 hi ⟨u2, u3, u4, rfl, s3⟩ ⟨rfl, hy⟩
    obtain ⟨q, bq, e1, rfl, hbq⟩ := bag_get hx2 hy
    have hq := List.mem_of_getElem? e1
    have hqn := hv.ok.nam q hq
    have hq1 := hv.ok.pos q hq
    have hq2 := hb q hq
    have hql := isName_len hqn
    have hbl := (blen_le (k := 200) (show 0 ≤ q.2 by omega)).mp hq2
    refine w_gtup (sqt_same s3 hbq) rfl ?_
    tm_at "wp"
    refine w_bits ?_
    tm_at "wp"
    refine ⟨q.2, rfl, ?_⟩
    tm_at "wp"
    rw [show (((Builtin.Int.intBits q.2 : Nat) : Int) + 7) / 8 = ((blen q.2 : Nat) : Int) by unfold blen; omega]
    refine w_lenS (by rw [sizeLine_eq]; omega) ?_
    tm_at "wp"
    rename_i p1 hp1
    refine w_bytes (ns := [((q.1.length : Nat) : Int)]) (SqL.of upd_same) (fun n hn => by rw [List.mem_singleton.mp hn]; omega) ?_
    have s4 := s3.trans (same_new hp1 (u := HO.lst [V.int ((q.1.length : Nat) : Int)]))
    generalize upd H3 p1 (HO.lst [V.int ((q.1.length : Nat) : Int)]) = H4 at *
    tm_at "wp"
    refine w_tyS ?_
    tm_at "wp"
    refine ⟨q.1, rfl, rfl, name_asc hqn, by omega, ?_⟩
    refine w_addBy (by rw [codes_len]; show 1 + _ ≤ _; omega) ?_
    tm_at "wp"
    rename_i p2 hp2
    refine w_bytes (ns := [((blen q.2 : Nat) : Int)]) (SqL.of upd_same) (fun n hn => by rw [List.mem_singleton.mp hn]; omega) ?_
    have s5 := s4.trans (same_new hp2 (u := HO.lst [V.int ((blen q.2 : Nat) : Int)]))
    generalize upd H4 p2 (HO.lst [V.int ((blen q.2 : Nat) : Int)]) = H5 at *
    refine w_addBy (by rw [List.length_append, codes_len]; show 1 + _ + 1 ≤ _; omega) ?_
    tm_at "wp"
    refine w_tyI ?_
    tm_at "wp"
    refine ⟨q.2, blen q.2, rfl, rfl, by omega, by omega, (blen_le (by omega)).mpr (Nat.le_refl _), ?_⟩
    refine w_addBy (by rw [List.length_append, List.length_append, codes_len, List.length_reverse, PySem.W.KTBy.little_length]; show 1 + _ + 1 + _ ≤ _; omega) ?_
    tm_at "wp"
    have hr : ((ps.take i).flatMap rowP).length ≤ 210 * (ps.take i).length := rows_len fun p hp => by
      have hp := List.mem_of_mem_take hp
      have h1 := isName_len (hv.ok.nam p hp)
      have h2 := hv.ok.pos p hp
      exact ⟨by omega, (blen_le (k := 200) (show 0 ≤ p.2 by omega)).mp (hb p hp)⟩
    rw [List.length_take] at hr
    refine w_addBy ?_ ?_
    · have h1 := rowP_len q
      unfold rowP bigE at h1
      rw [h1, List.length_append]
      show 2 + _ + _ ≤ _
      omega
    tm_at "wp"
    refine ⟨some (.str q.1), some (.int q.2), some (.int (blen q.2 : Nat)), ?_, s5⟩
    rw [take_succ_snoc e1, List.flatMap_append, List.flatMap_singleton]
    rw [List.append_assoc]
    rfl
theorem ok_block_at {P : Program} {w : World} {K : PySem.W.Frag} {mg : Str → Option Value} {base : Heap} (fr : Fre mg) (D : Dfd K mg "block_at" s_block_at) : Has P w K mg base CX0 1 "block_at" s_block_at ["data", "index"] (sp_block_at K) := by
  refine D.has sc_block_at (fun vs H Q E h => ?_) (fun cdv A outer s H vs Q E hr hg h => ?_)
  · obtain ⟨ks, i, rfl, _⟩ := h; rfl
  · obtain ⟨ks, i, rfl, h8, hl, hi, kN, kS⟩ := h
    have nd := sc_block_at.nd
    refine ⟨_, PSs.nox (pss_cons (ps_set (i := 2) nd rfl (Or.inl rfl) (pe_ifExp (pt_cmpR op_lt (pv 1) (pe_callB (k_len K) rfl fr.len_ (by decide +kernel) (pa_cons (pv 0) pa_nil)) (nomark _)) (pe_op op_add (pe_op op_add (pv 1) pe_int) (pe_ixBy (pv 0) (pv 1) (fun _ _ => rfl))) (pe_op op_add (pe_callB (k_len K) rfl fr.len_ (by decide +kernel) (pa_cons (pv 0) pa_nil)) pe_int)))
      (pss_one (ps_ret (pe_ifExp (pt_cmpR op_le (pv 2) (pe_callB (k_len K) rfl fr.len_ (by decide +kernel) (pa_cons (pv 0) pa_nil)) (nomark _)) (pe_tup (pa_cons (pe_slice sl_by (pv 0) (po_some (pe_op op_add (pv 1) pe_int)) (po_some (pv 2))) (pa_cons (pv 2) pa_nil))) pe_non)))), ?_⟩
    try dsimp only [cxOf]
    tm_at "wp"
    refine w_lenBy hl ?_
    tm_at "wp"
    by_cases h : (i : Int) < (ks.length : Nat)
    · rw [decide_eq_true h, if_pos rfl]
      have hi2 : i < ks.length := by omega
      have hd : ks.drop i = ks[i] :: ks.drop (i + 1) := List.drop_eq_getElem_cons hi2
      have hk := h8 ks[i] (List.getElem_mem hi2)
      rw [hd] at kN kS
      tm_at "wp"
      refine w_ixBy hl h8 hi2 ?_
      tm_at "wp"
      have he : ((i : Nat) : Int) + 1 + ks[i] = ((i + 1 + ks[i].toNat : Nat) : Int) := by omega
      rw [he]
      refine w_lenBy hl ?_
      tm_at "wp"
      have hb : blockR (ks[i] :: ks.drop (i + 1)) = if ks[i].toNat ≤ (ks.drop (i + 1)).length then some ((ks.drop (i + 1)).take ks[i].toNat, (ks.drop (i + 1)).drop ks[i].toNat) else none := rfl
      rw [List.length_drop] at hb
      by_cases h2 : ((i + 1 + ks[i].toNat : Nat) : Int) ≤ (ks.length : Nat)
      · rw [decide_eq_true h2, if_pos rfl]
        rw [if_pos (by omega)] at hb
        tm_at "wp"
        rw [show ((i : Nat) : Int) + 1 = ((i + 1 : Nat) : Int) by omega]
        refine w_slBy hl ?_
        tm_at "wp"
        rename_i t ht
        refine kS _ _ hb t (i + 1 + ks[i].toNat) _ (same_new ht) ?_ (by omega) (by rw [List.drop_drop])
        rw [upd_same, cutL_ab, show i + 1 + ks[i].toNat - (i + 1) = ks[i].toNat by omega]
      · rw [decide_eq_false h2, if_neg (by decide)]
        rw [if_neg (by omega)] at hb
        tm_at "wp"
        exact kN hb _ (Same.refl _)
    · rw [decide_eq_false h, if_neg (by decide)]
      have hd : ks.drop i = [] := List.drop_of_length_le (by omega)
      rw [hd] at kN
      tm_at "wp"
      refine w_lenBy hl ?_
      tm_at "wp"
      refine w_lenBy hl ?_
      tm_at "wp"
      rw [decide_eq_false (by omega), if_neg (by decide)]
      tm_at "wp"
      exact kN rfl _ (Same.refl _)
theorem ok_pair_at {P : Program} {w : World} {K : PySem.W.Frag} {mg : Str → Option Value} {base : Heap} (fr : Fre mg) (c_FIRST_LETTER : ∃ t, mg "FIRST_LETTER" = some (.int 97 t)) (c_LETTERS : ∃ t, mg "LETTERS" = some (.str "abcdefghijklmnopqrstuvwxyz" t)) (D : Dfd K mg "pair_at" s_pair_at)
    (h_block_at : Has P w K mg base CX0 1 "block_at" s_block_at ["data", "index"] (sp_block_at K)) : Has P w K mg base CX0 2 "pair_at" s_pair_at ["data", "index"] (sp_pair_at K) := by
  refine D.has sc_pair_at (fun vs H Q E h => ?_) (fun cdv A outer s H vs Q E hr hg h => ?_)
  · obtain ⟨ks, i, rfl, _⟩ := h; rfl
  · obtain ⟨ks, i, rfl, h8, hl, hi, kN, kS⟩ := h
    obtain ⟨_, g_FIRST_LETTER⟩ := c_FIRST_LETTER
    obtain ⟨_, g_LETTERS⟩ := c_LETTERS
    have nd := sc_pair_at.nd
    refine ⟨_, PSs.nox (pss_cons (ps_set (i := 2) nd rfl (Or.inl rfl) (pe_fn h_block_at pb_block_at (hr.mono (by decide)) hg rfl pass0 (pa_cons (pv 0) (pa_cons (pv 1) pa_nil))))
      (pss_cons (ps_set (i := 3) nd rfl (Or.inl rfl) (pe_ifExp (pt_cmpR o_isN (pv 2) pe_non (nomark _)) pe_non (pe_fn h_block_at pb_block_at (hr.mono (by decide)) hg rfl pass0 (pa_cons (pv 0) (pa_cons (pe_ix (k_ixT K) (pv 2) pe_int (fun _ _ => rfl)) pa_nil)))))
      (pss_cons (ps_if (PW.pt (pw_or (pt_cmpR o_isN (pv 3) pe_non (nomark _)) (pw_or1 (pt_cmpR (k_inBy K) (pe_slice sl_by (pe_ix (k_ixT K) (pv 3) pe_int (fun _ _ => rfl)) po_none (po_some pe_int)) (pe_tup (pa_cons pe_bytC (pa_cons pe_bytC pa_nil))) rfl)))) (pss_one (ps_ret pe_non)) pss_nil)
      (pss_cons (ps_setLc (i := 4) (own := [("byte", 5)]) (g := gName 5) (tt := tYes) rfl nd rfl rfl (sw_true rfl rfl rfl (by decide +kernel)) (pi_byt (pe_ix (k_ixT K) (pv 2) pe_int (fun _ _ => rfl))) (blkOk_by (own := [("byte", 5)]) (N := N_pair_at) (sc := defScope s_pair_at) (by decide +kernel)) (fun _ _ _ _ _ => (pg_name (i := 5) nd rfl (Or.inl rfl))) (fun _ _ _ _ _ => pts_nil) (fun _ _ _ _ _ => (pe_op op_sub (pv 5) (pe_glob (v := .int 97) rfl g_FIRST_LETTER ⟨_, rfl⟩))))
      (pss_cons (ps_if (pt_not (pt_val (pe_callB (k_all K rfl) rfl fr.all_ (by decide +kernel) (pa_cons (pe_lc (own := [("letter", 6)]) (g := gName 6) (tt := tYes) rfl nd (k_iList K (pv 4)) (blkOk_by (own := [("letter", 6)]) (N := N_pair_at) (sc := defScope s_pair_at) (by decide +kernel)) (fun _ _ _ _ _ => (pg_name (i := 6) nd rfl (Or.inl rfl))) (fun _ _ _ _ _ => pts_nil) (fun _ _ _ _ _ => (pe_chain op_le op_lt pe_int (pv 6) (pe_callB (k_len K) rfl fr.len_ (by decide +kernel) (pa_cons (pe_glob (v := .str "abcdefghijklmnopqrstuvwxyz") rfl g_LETTERS ⟨_, rfl⟩) pa_nil))))) pa_nil)))) (pss_one (ps_ret pe_non)) pss_nil)
      (pss_one (ps_ret (pe_tup (pa_cons (pe_tup (pa_cons (k_join K pe_str (pe_lc (own := [("letter", 6)]) (g := gName 6) (tt := tYes) rfl nd (k_iList K (pv 4)) (blkOk_by (own := [("letter", 6)]) (N := N_pair_at) (sc := defScope s_pair_at) (by decide +kernel)) (fun _ _ _ _ _ => (pg_name (i := 6) nd rfl (Or.inl rfl))) (fun _ _ _ _ _ => pts_nil) (fun _ _ _ _ _ => (pe_ix ix_str (pe_glob (v := .str "abcdefghijklmnopqrstuvwxyz") rfl g_LETTERS ⟨_, rfl⟩) (pv 6) (fun _ _ => rfl))))) (pa_cons (pe_fromBytesW (pe_bltn (v := .ty "int") rfl fr.int_ boot_int rfl) (pa_cons (pe_ix (k_ixT K) (pv 3) pe_int (fun _ _ => rfl)) (pa_cons pe_str pa_nil))) pa_nil))) (pa_cons (pe_ix (k_ixT K) (pv 3) pe_int (fun _ _ => rfl)) pa_nil)))))))))), ?_⟩
    try dsimp only [cxOf]
    tm_at "wp"
    refine ⟨ks, i, rfl, h8, by omega, by omega, fun hn H1 s1 => ?_, fun a r ha t e H1 s1 ht he hr => ?_⟩
    · tm_at "wp"
      refine kN ?_ _ s1
      unfold pairR
      rw [hn]
    obtain ⟨g1, g2, g3, g4, g5⟩ := blockR_ok ha (fun n hn => h8 n (List.mem_of_mem_drop hn))
    rw [List.length_drop] at g1 g2
    tm_at "wp"
    refine w_ixT (SqT.of ht) (v := .int (e : Nat)) rfl ?_
    tm_at "wp"
    refine ⟨ks, e, rfl, h8, by omega, by omega, ?_⟩
    rw [hr]
    refine ⟨fun hn H2 s2 => ?_, fun b r2 hb t2 e2 H2 s2 ht2 he2 hr2 => ?_⟩
    · tm_at "wp"
      refine kN ?_ _ (s1.trans s2)
      unfold pairR
      rw [ha]
      dsimp only
      rw [hn]
    obtain ⟨f1, f2, f3, f4, f5⟩ := blockR_ok hb g4
    have hp : pairR (ks.drop i) = if b = [] ∨ b.head? = some 0 ∨ a.all letB = false then none else some ((txtB a, valB b), r2) := by
      unfold pairR
      rw [ha]
      dsimp only
      rw [hb]
    tm_at "wp"
    refine w_ixT (SqT.of ht2) (v := .byt (byteArr b)) rfl ?_
    tm_at "wp"
    refine w_slBy (by omega) ?_
    rw [show cutL b none (some (1 : Int)) = b.take 1 from cutL_hi (k := 1)]
    tm_at "wp"
    rename_i p hp0
    refine ⟨p, b.take 1, [[], [0]], rfl, rfl, SqT.of upd_same, f3.take 1, fun z hz n hn => ?_, ?_⟩
    · rcases List.mem_cons.mp hz with rfl | hz
      · cases hn
      · rw [List.mem_singleton.mp hz] at hn
        rw [List.mem_singleton.mp hn]
        decide
    rw [head_in]
    have s3 := s2.trans (same_new hp0 (u := HO.tup [V.byt #[], V.byt #[0]]))
    have ht3 := hp_new ht2 hp0 (u := HO.tup [V.byt #[], V.byt #[0]])
    generalize upd H2 p (HO.tup [V.byt #[], V.byt #[0]]) = H3 at *
    refine w_bl ?_
    by_cases hz : b = [] ∨ b.head? = some 0
    · rw [decide_eq_true hz, if_pos rfl]
      tm_at "wp"
      refine kN ?_ _ (s1.trans s3)
      rw [hp, if_pos (hz.elim .inl fun h => .inr (.inl h))]
    rw [decide_eq_false hz, if_neg (by decide)]
    tm_at "wp"
    refine w_iByt ?_
    tm_at "wp"
    refine w_ixT (SqT.of (s3 _ _ ht)) (v := .byt (byteArr a)) rfl ?_
    refine ⟨_, rfl, ?_⟩
    intro D0 hD
    refine lc_map (walk_by g3) (by omega) (fun i y => ∃ k, a[i]? = some k ∧ y = .int (k - 97)) hD (fun _ _ => trivial) ?_ ?_ mono_gname
    · rintro j y G1 G2 hj sg ⟨rfl, k, hk, rfl⟩ Qy hq
      refine w_gname ⟨rfl, ?_⟩
      tm_at "wp"
      exact hq _ _ (Same.refl _) ⟨k, hk, rfl⟩
    intro acc H4 s4 _ hacc hla hf
    have eacc : acc = (a.map fun k => k - 97).map V.int := by
      rw [List.map_map]
      exact acc_map hla hf
    rw [eacc] at hacc
    have ht4 := s4 _ _ ht3
    have s14 := s1.trans (s3.trans s4)
    clear hla hf eacc hD s4
    tm_at "wp"
    refine w_onL (SqL.of hacc) ?_
    intro D1 hD1
    refine lc_map (walk_list (xs := (a.map fun k => k - 97).map V.int)) (by rw [List.length_map, List.length_map]; omega) (fun i y => ∃ k, a[i]? = some k ∧ y = .bl (letB k)) hD1 (fun _ s => s.seq (SqL.of hacc)) ?_ ?_ mono_gname
    · rintro j y G1 G2 hj sg ⟨rfl, hy⟩ Qy hq
      obtain ⟨k, hk, rfl⟩ : ∃ k, a[j]? = some k ∧ y = .int (k - 97) := by
        rw [List.getElem?_map, List.getElem?_map] at hy
        cases e : a[j]? with
        | none => rw [e] at hy; cases hy
        | some k => rw [e] at hy; cases hy; exact ⟨k, rfl, rfl⟩
      refine w_gname ⟨rfl, ?_⟩
      tm_at "wp"
      by_cases z : (0 : Int) ≤ k - 97
      · rw [decide_eq_true z, if_pos rfl]
        tm_at "wp"
        refine w_lenS (by decide +kernel) ?_
        tm_at "wp"
        refine hq _ _ (Same.refl _) ⟨k, hk, ?_⟩
        show V.bl (decide (k - 97 < ((26 : Nat) : Int))) = V.bl (decide (97 ≤ k) && decide (k ≤ 122))
        rw [decide_eq_true (show 97 ≤ k by omega), Bool.true_and]
        exact congrArg V.bl (decide_eq_decide.mpr (by omega))
      · rw [decide_eq_false z, if_neg (by decide)]
        refine hq _ _ (Same.refl _) ⟨k, hk, ?_⟩
        show V.bl false = V.bl (decide (97 ≤ k) && decide (k ≤ 122))
        rw [decide_eq_false (show ¬ 97 ≤ k by omega)]; rfl
    intro acc2 H5 s5 _ hacc2 hla2 hf2
    have e2 : acc2 = (a.map letB).map V.bl := by
      rw [List.map_map]
      exact acc_map (by simpa using hla2) hf2
    rw [e2] at hacc2
    have hacc := s5 _ _ hacc
    have ht5 := s5 _ _ ht4
    have s15 := s14.trans s5
    clear hla2 hf2 e2 hD1 s5 ht4
    tm_at "wp"
    refine w_all (SqL.of hacc2) ?_
    rw [show (a.map letB).all id = a.all letB by rw [List.all_map]; rfl]
    refine w_bl ?_
    cases hb2 : a.all letB with
    | false =>
      rw [if_pos (by rfl)]
      tm_at "wp"
      refine kN ?_ _ s15
      rw [hp, if_pos (.inr (.inr hb2))]
    | true =>
      rw [if_neg (by decide)]
      rw [if_neg (by rw [hb2]; rintro (h | h | h); exact hz (.inl h); exact hz (.inr h); cases h)] at hp
      tm_at "wp"
      refine w_onL (SqL.of hacc) ?_
      intro D2 hD2
      refine lc_map (walk_list (xs := (a.map fun k => k - 97).map V.int)) (by rw [List.length_map, List.length_map]; omega) (fun i y => ∃ k, a[i]? = some k ∧ y = .str (chrB k)) hD2 (fun _ s => s.seq (SqL.of hacc)) ?_ ?_ mono_gname
      · rintro j y G1 G2 hj sg ⟨rfl, hy⟩ Qy hq
        obtain ⟨k, hk, rfl⟩ : ∃ k, a[j]? = some k ∧ y = .int (k - 97) := by
          rw [List.getElem?_map, List.getElem?_map] at hy
          cases e : a[j]? with
          | none => rw [e] at hy; cases hy
          | some k => rw [e] at hy; cases hy; exact ⟨k, rfl, rfl⟩
        have hk2 := letB_eq.mp (List.all_eq_true.mp hb2 k (List.mem_of_getElem? hk))
        refine w_gname ⟨rfl, ?_⟩
        tm_at "wp"
        refine w_ixS (z := letters) (by decide +kernel) (letters_at (by omega) (by omega)) (hq _ _ (Same.refl _) ⟨k, hk, ?_⟩)
        rw [show 97 + (k - 97).toNat = k.toNat by omega]
        rfl
      intro acc3 H6 s6 _ hacc3 hla3 hf3
      have e3 : acc3 = (a.map chrB).map V.str := by
        rw [List.map_map]
        exact acc_map (by simpa using hla3) hf3
      rw [e3] at hacc3
      have ht6 := s6 _ _ ht5
      have s16 := s15.trans s6
      clear hla3 hf3 e3 hD2 s6 ht5 hacc hacc2
      refine w_join (SqL.of hacc3) (by rw [chrs_len, List.length_map]; show a.length + a.length * 0 ≤ _; omega) ?_
      rw [join_chr]
      refine w_cons (w_fromW fun u hu => ?_)
      have ht7 := hp_new ht6 hu (u := fbHO u)
      tm_at "wp"
      refine w_ixT (SqT.of ht7) (v := .byt (byteArr b)) rfl ?_
      tm_at "wp"
      refine ⟨upd_same, b, f3, by omega, rfl, ?_⟩
      tm_at "wp"
      rename_i p1 hp1
      refine w_ixT (SqT.of (hp_new ht7 hp1)) (v := .int (e2 : Nat)) rfl ?_
      tm_at "wp"
      rename_i p2 hp2
      exact kS _ _ hp p2 p1 e2 _ (((s16.trans (same_new hu)).trans (same_new hp1)).trans (same_new hp2)) upd_same (hp_new upd_same hp2) he2 hr2
theorem ok_unpack_summary {P : Program} {w : World} {K : PySem.W.Frag} {mg : Str → Option Value} {base : Heap} (fr : Fre mg) (x_InvalidText : HasX P w K mg base "InvalidText" "text") (D : Dfd K mg "unpack_summary" s_unpack_summary)
    (h_is_capacity : Has P w K mg base CX0 3 "is_capacity" s_is_capacity ["thing"] (sp_is_capacity K))
    (h_pair_at : Has P w K mg base CX0 2 "pair_at" s_pair_at ["data", "index"] (sp_pair_at K))
    (h_summary_or_none : Has P w K mg base CX0 7 "summary_or_none" s_summary_or_none ["capacity", "counts"] (sp_summary_or_none K)) : Has P w K mg base (L2.CX P w) 8 "unpack_summary" s_unpack_summary ["data"] (sp_unpack_summary K) := by
  refine D.has sc_unpack_summary (fun vs H Q E h => ?_) (fun cdv A outer s H vs Q E hr hg h => ?_)
  · obtain ⟨v, rfl, _⟩ := h; rfl
  · obtain ⟨v, rfl, hh⟩ := h
    have nd := sc_unpack_summary.nd
    refine ⟨_, (pss_cons (ps_if (PW.pt (pw_or (pt_not (pt_val (pe_callB (k_isi K) rfl fr.isinstance_ (by decide +kernel) (pa_cons (pv 0) (pa_cons (pe_bltn (v := .ty "bytes") rfl fr.bytes_ boot_bytes rfl) pa_nil))))) (pw_or (pt_cmpR op_lt (pe_callB (k_len K) rfl fr.len_ (by decide +kernel) (pa_cons (pv 0) pa_nil)) pe_int (nomark _)) (pw_or1 (pt_not (pt_val (pe_fn h_is_capacity pb_is_capacity (hr.mono (by decide)) hg rfl pass0 (pa_cons (pe_ixBy (pv 0) pe_int (fun _ _ => rfl)) pa_nil)))))))) (pss_one (ps_rai K x_InvalidText rfl takesE (hr.mono (by decide)) rfl (pv 0))) pss_nil)
      (pss_cons (ps_par (i := 1) (j := 2) rfl nd rfl rfl (by decide) rfl rfl (pa_cons (pe_lst pa_nil) (pa_cons pe_int pa_nil)) rfl)
      (pss_cons (ps_for (passes_of rfl) rfl (pi_range1 rfl fr.range_ (pa_cons (pe_ixBy (pv 0) pe_int (fun _ _ => rfl)) pa_nil)) (pg_name (i := 3) nd rfl (Or.inl rfl))
        (pss_cons (ps_set (i := 4) nd rfl (Or.inl rfl) (pe_fn h_pair_at pb_pair_at (hr.mono (by decide)) hg rfl pass0 (pa_cons (pv 0) (pa_cons (pv 2) pa_nil))))
      (pss_cons (ps_if (pt_cmpR o_isN (pv 4) pe_non (nomark _)) (pss_one (ps_rai K x_InvalidText rfl takesE (hr.mono (by decide)) rfl (pv 0))) pss_nil)
      (pss_cons (ps_expr (k_bm K PySem.F.plainAttrs_list PySem.F.slot_list_append PySem.F.type_list_append mt_append (pv 1) (pa_cons (pe_ix (k_ixT K) (pv 4) pe_int (fun _ _ => rfl)) pa_nil)))
      (pss_one (ps_set (i := 2) nd rfl (Or.inl rfl) (pe_ix (k_ixT K) (pv 4) pe_int (fun _ _ => rfl))))))))
      (pss_cons (ps_set (i := 5) nd rfl (Or.inl rfl) (pe_fn h_summary_or_none pb_summary_or_none (hr.mono (by decide)) hg rfl pass0 (pa_cons (pe_ixBy (pv 0) pe_int (fun _ _ => rfl)) (pa_cons (pe_callTy (k_tuple K) rfl fr.tuple_ (by decide +kernel) (pa_cons (pv 1) pa_nil)) pa_nil))))
      (pss_cons (ps_if (PW.pt (pw_or (pt_cmpR o_isN (pv 5) pe_non (nomark _)) (pw_or1 (pt_cmpR op_ne (pv 2) (pe_callB (k_len K) rfl fr.len_ (by decide +kernel) (pa_cons (pv 0) pa_nil)) (nomark _))))) (pss_one (ps_rai K x_InvalidText rfl takesE (hr.mono (by decide)) rfl (pv 0))) pss_nil)
      (pss_one (ps_ret (pv 5)))))))), ?_⟩
    try dsimp only [cxOf]
    tm_at "wp"
    rcases hh with ⟨ks, rfl, h8, hl, k, kE⟩ | ⟨⟨t, ht, hkt⟩, kE⟩
    rotate_left
    · refine ⟨_, _, _, _, false, rfl, .ty "bytes", ht, hkt, ?_⟩
      refine w_bl ?_
      rw [if_pos (by rfl), if_pos rfl]
      refine w_rai ?_
      tm_at "wp"
      exact w_raic fun dx hdx => kE dx _ (same_new hdx) upd_same
    refine ⟨_, _, _, _, true, rfl, .ty "bytes", .byt _, by first | exact byt_byt | rfl, ?_⟩
    refine w_bl ?_
    rw [if_neg (by decide)]
    tm_at "wp"
    refine w_lenBy (by omega) ?_
    tm_at "wp"
    by_cases h2 : ((ks.length : Nat) : Int) < 2
    · rw [decide_eq_true h2, if_pos rfl, if_pos rfl]
      have hn : unpackK ks = none := by
        rcases ks with _ | ⟨c, _ | ⟨n, r⟩⟩
        · rfl
        · rfl
        · exfalso
          rw [List.length_cons, List.length_cons] at h2
          omega
      refine w_rai ?_
      tm_at "wp"
      exact w_raic fun dx hdx => kE hn dx _ (same_new hdx) upd_same
    rw [decide_eq_false h2, if_neg (by decide)]
    rcases ks with _ | ⟨c, _ | ⟨n, r⟩⟩
    · exact absurd (show ((0 : Nat) : Int) < 2 by decide) h2
    · exact absurd (show ((1 : Nat) : Int) < 2 by decide) h2
    have hn8 := h8 n (List.mem_cons_of_mem _ List.mem_cons_self)
    tm_at "wp"
    refine w_ixBk (i := 0) (k := c) (by omega) h8 rfl ?_
    tm_at "wp"
    refine ⟨.int c, .int c, rfl, .int _, ?_⟩
    refine w_bl ?_
    by_cases hc : 1 ≤ c ∧ c ≤ 8
    rotate_left
    · have e : betD (.int c) 1 8 = false := by
        show (decide (1 ≤ c) && decide (c ≤ 8)) = false
        by_cases z : 1 ≤ c
        · rw [decide_eq_true z, decide_eq_false (fun y => hc ⟨z, y⟩)]; rfl
        · rw [decide_eq_false z]; rfl
      rw [e, if_pos (by rfl)]
      have hn : unpackK (c :: n :: r) = none := by rw [unpack_rows, if_neg hc]
      refine w_rai ?_
      tm_at "wp"
      exact w_raic fun dx hdx => kE hn dx _ (same_new hdx) upd_same
    have e : betD (.int c) 1 8 = true := by
      show (decide (1 ≤ c) && decide (c ≤ 8)) = true
      rw [decide_eq_true hc.1, decide_eq_true hc.2]; rfl
    rw [e, if_neg (by decide)]
    have hu : unpackK (c :: n :: r) = match rowsR n.toNat r with
        | some (ps, []) => if verOk (badF c) (bagD ps) = true then some (c, ps) else none
        | _ => none := by
      first
        | (rw [unpack_rows, if_pos hc]; rfl)
        | rw [unpack_rows, if_pos hc]
    tm_at "wp"
    rename_i R hR
    refine w_ixBk (i := 1) (k := n) (by omega) h8 rfl ?_
    have hks : (c :: n :: r).length = r.length + 2 := rfl
    have rai : ∀ (H1 : Hp) (σ : L2.St) (D : Ends), Same H H1 → unpackK (c :: n :: r) = none → σ[0]? = some (some (.byt (byteArr (c :: n :: r)))) → tRai K "InvalidText" "text" (fun cls d _ H' => E cls d H') (tVar 0) D σ H1 := fun H1 σ D s1 hn h0 =>
      w_rai (w_var h0 (w_raic fun dx hdx => kE hn dx _ (s1.trans (same_new hdx)) upd_same))
    tm_at "wp"
    refine w_onR1 ⟨by omega, by omega⟩ ?_
    refine for_go walk_range (fun j σ H' => ∃ (u3 u4 : Option V) (xs : List V) (qs : Bag) (idx : Nat), σ = [some (.byt (byteArr (c :: n :: r))), some (.ref R), some (.int (idx : Nat)), u3, u4, none] ∧ Same H H' ∧ H' R = some (.lst xs) ∧ DpAll K H' xs (qs.map pairD) ∧ qs.length = j ∧ idx ≤ (c :: n :: r).length ∧ rowsR n.toNat r = restR qs (n.toNat - j) ((c :: n :: r).drop idx) ∧ ∀ q ∈ qs, q.1.length ≤ 255)
      ⟨none, none, [], [], 2, rfl, same_new hR, upd_same, .nil, rfl, by omega, rest_nil.symm, nofun⟩ (fun _ _ _ _ _ => trivial) ?_ ?_
    · rintro j y σ H2 H1 hj ⟨u3, u4, xs, qs, idx, rfl, s1, hR1, hd, hl1, hi, hrow, hq⟩ ⟨rfl, rfl⟩
      refine w_gname ?_
      tm_at "wp"
      have hm : n.toNat - j = (n.toNat - (j + 1)) + 1 := by omega
      rw [hm] at hrow
      refine ⟨c :: n :: r, idx, rfl, h8, hl, by omega, fun hn H3 s3 => ?_, fun q r' hq' t t1 e H3 s3 ht ht1 he hr => ?_⟩
      · tm_at "wp"
        refine rai _ _ _ (s1.trans s3) ?_ rfl
        rw [hu, hrow, restR_none hn]
      · have hR3 := s3 _ _ hR1
        have hxl : xs.length = qs.length := by rw [dps_len hd, List.length_map]
        tm_at "wp"
        refine w_tyL hR3 ?_
        tm_at "wp"
        refine w_ixT (SqT.of ht) (v := .ref t1) rfl ?_
        tm_at "wp"
        refine w_append hR3 (by rw [sizeLine_eq]; omega) ?_
        have st : SameT H3 (upd H3 R (.lst (xs ++ [.ref t1]))) := SameT.lst hR3
        have ht4 : SqT K (upd H3 R (.lst (xs ++ [.ref t1]))) t [.ref t1, .int (e : Nat)] := st.sqt (SqT.of ht)
        tm_at "wp"
        refine w_ixT ht4 (v := .int (e : Nat)) rfl ?_
        tm_at "wp"
        refine ⟨_, some (.ref t), xs ++ [.ref t1], qs ++ [q], e, rfl, same_mut (s1.trans s3) hR, upd_same, ?_, by rw [List.length_append, hl1]; rfl, he, ?_, fun z hz => ?_⟩
        · rw [List.map_append]
          refine dps_snoc ?_ ?_
          · exact dps_flat st (dps_same s3 hd) (by have := flat_bag qs; simpa [bagD, flatD] using this)
          · exact pair_mk (st.sqt (SqT.of ht1))
        · rw [hrow, restR_some hq', hr]
        · rcases List.mem_append.mp hz with hz | hz
          · exact hq z hz
          · rw [List.mem_singleton.mp hz]
            exact pairR_len hq' fun n hn => h8 n (List.mem_of_mem_drop hn)
    rintro σ H1 ⟨u3, u4, xs, qs, idx, rfl, s1, hR1, hd, hl1, hi, hrow, hq⟩
    rw [Nat.sub_self, rest_zero] at hrow
    rw [hrow] at hu
    tm_at "wp"
    refine w_ixBk (i := 0) (k := c) (by omega) h8 rfl ?_
    tm_at "wp"
    refine w_tupL (SqL.of hR1) ?_
    intro T hT
    have s2 := s1.trans (same_new hT (u := HO.tup xs))
    have hdT : DpAll K (upd H1 T (HO.tup xs)) xs (qs.map pairD) := dps_same (same_new hT) hd
    have hT2 := @upd_same H1 T (HO.tup xs)
    generalize upd H1 T (HO.tup xs) = H2 at *
    tm_at "wp"
    have hsz : szD (bagD qs) = true := szDs_all fun d hd => by
      obtain ⟨q, hq', rfl⟩ := List.mem_map.mp hd
      have := hq q hq'
      show (decide (q.1.length ≤ 100000) && (true && true)) = true
      rw [decide_eq_true (by omega)]; rfl
    have hdp : Dp K H2 (.ref T) (bagD qs) := .tup (SqT.of hT2) hdT
    refine ⟨c, .ref T, bagD qs, rfl, hc.1, hc.2, dp_dx hdp, hsz, fun ho a dx H4 s4 ha => ?_, fun hn H4 s4 => ?_⟩
    · have hSum : SumO K H4 (.ref a) c qs := ⟨a, dx, .ref T, rfl, ha, dp_same s4 hdp⟩
      tm_at "wp"
      refine w_lenBy (by omega) ?_
      tm_at "wp"
      by_cases hx : ((idx : Nat) : Int) = (((c :: n :: r).length : Nat) : Int)
      · rw [decide_eq_true hx, if_neg (by decide)]
        tm_at "wp"
        have hd0 : (c :: n :: r).drop idx = [] := List.drop_of_length_le (by omega)
        rw [hd0] at hu
        exact k c qs (by rw [hu]; show (if _ then _ else _) = _; rw [if_pos ho]) _ _ (s2.trans s4) hSum
      · rw [decide_eq_false hx, if_pos (by rfl)]
        refine rai _ _ _ (s2.trans s4) ?_ rfl
        cases hd0 : (c :: n :: r).drop idx with
        | nil =>
          exfalso
          have := congrArg List.length hd0
          rw [List.length_drop] at this
          simp only [List.length_nil] at this
          omega
        | cons x y => rw [hd0] at hu; exact hu
    · tm_at "wp"
      refine rai _ _ _ (s2.trans s4) ?_ rfl
      cases hd0 : (c :: n :: r).drop idx with
      | nil =>
        rw [hd0] at hu
        rw [hu]
        show (if _ then _ else _) = _
        rw [if_neg (by rw [hn]; decide)]
      | cons x y => rw [hd0] at hu; exact hu
theorem ok__law_cell {P : Program} {w : World} {K : PySem.W.Frag} {mg : Str → Option Value} {base : Heap} (fr : Fre mg) (D : Dfd K mg "_law_cell" s__law_cell) : Has P w K mg base CX0 1 "_law_cell" s__law_cell ["_law_script", "_law_k"] (sp__law_cell K) := by
  refine D.has sc__law_cell (fun vs H Q E h => ?_) (fun cdv A outer s H vs Q E hr hg h => ?_)
  · obtain ⟨a, ns, j, rfl, _⟩ := h; rfl
  · obtain ⟨a, ns, j, rfl, hs, hn, h0, h1, k⟩ := h
    have nd := sc__law_cell.nd
    refine ⟨_, PSs.nox (pss_cons (ps_if (pt_cmpR op_lt (pv 1) (pe_callB (k_len K) rfl fr.len_ (by decide +kernel) (pa_cons (pv 0) pa_nil)) (nomark _)) (pss_one (ps_ret (pe_ix (k_ixL K) (pv 0) (pv 1) (fun _ _ => rfl)))) pss_nil)
      (pss_cons (ps_set (i := 2) nd rfl (Or.inl rfl) (pe_op op_mod (pe_op op_mul pe_int (pe_op op_add (pe_op op_add (pe_op op_mul (pv 1) (pv 1)) (pe_op op_mul pe_int (pv 1))) pe_int)) pe_int))
      (pss_cons (ps_for PassesOwn.never rfl (k_iList K (pe_slice (k_slL K) (pv 0) po_none (po_some pe_int))) (pg_name (i := 3) nd rfl (Or.inl rfl))
        (pss_one (ps_set (i := 2) nd rfl (Or.inl rfl) (pe_op op_mod (pe_op op_add (pe_op op_mul (pv 2) pe_int) (pv 3)) pe_int))))
      (pss_one (ps_ret (pv 2)))))), ?_⟩
    try dsimp only [cxOf]
    tm_at "wp"
    refine w_lenL hs ?_
    tm_at "wp"
    refine w_ited (fun h2 => ?_) (fun h2 => ?_)
    · tm_at "wp"
      rw [List.length_map] at h2
      have h3 : j.toNat < ns.length := by omega
      refine w_ixL hs (v := .int ns[j.toNat]) ?_ ?_
      · exact at_of (j := j.toNat) (by omega) (by simp [h3])
      · exact k _ _ (Same.refl _)
    · tm_at "wp"
      refine w_slL hs ?_
      intro p hp
      refine w_onL (SqL.of upd_same) ?_
      have s0 : Same H (upd H p (.lst (cutV (ns.map V.int) none (some 3)))) := same_new hp
      refine for_go (walk_list (xs := cutV (ns.map V.int) none (some 3))) (fun i σ H' => ∃ z u, σ = [some (.ref a), some (.int j), some (.int z), u] ∧ 0 ≤ z ∧ z < 1000000007 ∧ H' = upd H p (.lst (cutV (ns.map V.int) none (some 3)))) ⟨_, none, rfl, Int.emod_nonneg _ (by decide), Int.emod_lt_of_pos _ (by decide), rfl⟩ (fun i σ H' _ ⟨_, _, _, _, _, e⟩ => by rw [e]; exact SqL.of upd_same) ?_ ?_
      · rintro i v σ H1 H2 hi ⟨z, u, rfl, z0, z1, rfl⟩ ⟨rfl, hy⟩
        obtain ⟨m, rfl⟩ : ∃ m, v = .int m := by
          have hm := List.mem_of_getElem? hy
          unfold cutV at hm
          have hm2 := List.mem_of_mem_drop (List.mem_of_mem_take hm)
          obtain ⟨m, _, e⟩ := List.mem_map.mp hm2
          exact ⟨m, e.symm⟩
        tm_at "wp"
        exact ⟨_, _, rfl, Int.emod_nonneg _ (by decide), Int.emod_lt_of_pos _ (by decide), rfl⟩
      · rintro σ H1 ⟨z, u, rfl, z0, z1, rfl⟩
        tm_at "wp"
        exact k _ _ s0
theorem okc__law_pool {P : Program} {w : World} {K : PySem.W.Frag} {mg : Str → Option Value} {base : Heap} (fr : Fre mg) (D : Dfd K mg "_law_pool" s__law_pool) : Has P w K mg base CX0 1 "_law_pool" s__law_pool ["_law_cell_here"] (spc__law_pool K) := by
  refine D.has sc__law_pool (fun vs H Q E h => ?_) (fun cdv A outer s H vs Q E hr hg h => ?_)
  · obtain ⟨n, rfl, _⟩ := h; rfl
  · obtain ⟨n, rfl, k⟩ := h
    have nd := sc__law_pool.nd
    refine ⟨_, PSs.nox (pss_cons (ps_set (i := 1) nd rfl (Or.inl rfl) pe_int)
      (pss_cons (ps_if (PW.pt (pw_or (pt_cmpR op_lt (pv 0) pe_int (nomark _)) (pw_or1 (pt_cmpR op_ge (pv 0) (pe_op op_pow pe_int pe_int) (nomark _))))) (pss_one (ps_set (i := 1) nd rfl (Or.inl rfl) (pe_callB c_abs rfl fr.abs_ (by decide +kernel) (pa_cons (pv 0) pa_nil)))) pss_nil)
      (pss_one (ps_ret (pe_lst (pa_cons (pe_op op_mod (pv 0) pe_int) (pa_cons (pv 1) (pa_cons pe_int pa_nil)))))))), ?_⟩
    try dsimp only [cxOf]
    have fin : ∀ (d : Int) (H' : Hp), 0 ≤ d → Same H H' → ∀ p, H' p = none → Q (.ref p) (upd H' p (.lst [.int (n % 1000000007), .int d, .int 0])) := fun d H' hd s p hp =>
      k p _ _ _ _ (s.free hp) (same_step s hp) upd_same ⟨Int.emod_nonneg _ (by decide), Int.emod_lt_of_pos _ (by decide), hd, Int.le_refl 0⟩
    tm_at "wp"
    refine w_ited (fun h1 => ?_) (fun h1 => ?_)
    · tm_at "wp"
      rename_i hp
      exact fin _ _ (by split <;> omega) (Same.refl _) _ hp
    · tm_at "wp"
      refine w_ited (fun h2 => ?_) (fun h2 => ?_)
      · tm_at "wp"
        rename_i hp
        exact fin _ _ (by split <;> omega) (Same.refl _) _ hp
      · tm_at "wp"
        rename_i hp
        exact fin _ _ (Int.le_refl 0) (Same.refl _) _ hp
theorem ok__law_pool {P : Program} {w : World} {K : PySem.W.Frag} {mg : Str → Option Value} {base : Heap} (fr : Fre mg) (D : Dfd K mg "_law_pool" s__law_pool) : Has P w K mg base CX0 1 "_law_pool" s__law_pool ["_law_cell_here"] (sp__law_pool K) := has_pool (okc__law_pool fr D) rfl
theorem okc__law_draw {P : Program} {w : World} {K : PySem.W.Frag} {mg : Str → Option Value} {base : Heap} (fr : Fre mg) (D : Dfd K mg "_law_draw" s__law_draw) : Has P w K mg base CX0 1 "_law_draw" s__law_draw ["_law_pool_here", "_law_many"] (spc__law_draw K) := by
  refine D.has sc__law_draw (fun vs H Q E h => ?_) (fun cdv A outer s H vs Q E hr hg h => ?_)
  · obtain ⟨p, s0, d0, c0, m, rfl, _⟩ := h; rfl
  · obtain ⟨p, s0, d0, c0, m, rfl, hp, hv, m0, m1, k⟩ := h
    have nd := sc__law_draw.nd
    refine ⟨_, PSs.nox (pss_cons (ps_asg (pe_op op_add (pe_ix (k_ixL K) (pv 0) pe_int (fun _ _ => rfl)) pe_int) (pg_sub (pv 0) pe_int set_list))
      (pss_cons (ps_set (i := 2) nd rfl (Or.inl rfl) (pe_ix (k_ixL K) (pv 0) pe_int (fun _ _ => rfl)))
      (pss_cons (ps_asg (pe_op op_mod (pe_callTy c_int1 rfl fr.int_ (by decide +kernel) (pa_cons (pe_op op_add (pe_op op_add (pe_op op_mul (pv 2) (pe_op op_add (pe_op op_mod (pe_callTy c_int1 rfl fr.int_ (by decide +kernel) (pa_cons (pv 2) pa_nil)) pe_int) pe_int)) (pe_op op_mul pe_int (pe_ix (k_ixL K) (pv 0) pe_int (fun _ _ => rfl)))) pe_int) pa_nil)) pe_int) (pg_sub (pv 0) pe_int set_list))
      (pss_cons (ps_if (pt_cmpR op_gt (pe_ix (k_ixL K) (pv 0) pe_int (fun _ _ => rfl)) pe_int (nomark _)) (pss_cons (ps_asg (pe_callB c_divmod rfl fr.divmod_ (by decide +kernel) (pa_cons (pe_ix (k_ixL K) (pv 0) pe_int (fun _ _ => rfl)) (pa_cons (pv 1) pa_nil))) (k_gtup K (n := 2) rfl (pgs_cons (pg_sub (pv 0) pe_int set_list) (pgs_cons (pg_name (i := 3) nd rfl (Or.inl rfl)) pgs_nil))))
      (pss_one (ps_ret (pv 3)))) pss_nil)
      (pss_one (ps_ret (pe_op op_mod (pe_op op_fdiv (pe_ix (k_ixL K) (pv 0) pe_int (fun _ _ => rfl)) pe_int) (pv 1)))))))), ?_⟩
    try dsimp only [cxOf]
    obtain ⟨v0, v1, v2, v3⟩ := hv
    tm_at "wp"
    refine w_ixL (SqL.of hp) (v := .int c0) rfl ?_
    tm_at "wp"
    refine w_setL hp (j := 2) rfl ?_
    tm_at "wp"
    refine w_ixL (SqL.of upd_same) (v := .int s0) rfl ?_
    tm_at "wp"
    refine w_ixL (SqL.of upd_same) (v := .int (c0 + 1)) rfl ?_
    tm_at "wp"
    refine w_setL upd_same (j := 0) rfl ?_
    tm_at "wp"
    generalize hs1 : (s0 * (s0 % 46007 + 20011) + 60013 * (c0 + 1) + 5) % 1000000007 = s1
    have b0 : 0 ≤ s1 := by rw [← hs1]; exact Int.emod_nonneg _ (by decide)
    have b1 : s1 < 1000000007 := by rw [← hs1]; exact Int.emod_lt_of_pos _ (by decide)
    rw [upd_upd]
    have sb : ∀ l : HO, SameB p H (upd H p l) := fun l => SameB.upd
    refine w_ixL (SqL.of upd_same) (v := .int d0) rfl ?_
    tm_at "wp"
    refine w_ited (fun h1 => ?_) (fun h1 => ?_)
    · tm_at "wp"
      refine w_ixL (SqL.of upd_same) (v := .int d0) rfl ?_
      tm_at "wp"
      refine w_divW (divp200 m0 m1) ?_
      intro q hq
      have npq : p ≠ q := ne_of_none (upd_same (H := H) (a := p)) hq
      refine w_gtup (SqT.of upd_same) rfl ?_
      tm_at "wp"
      refine w_setL ((upd_ne npq).trans upd_same) (j := 1) rfl ?_
      tm_at "wp"
      refine k _ s1 (d0 / m) (c0 + 1) _ (Int.emod_nonneg _ (by omega)) (Int.emod_lt_of_pos _ m0) (fun b o nb e => ?_) upd_same ⟨b0, b1, Int.ediv_nonneg v2 (by omega), by omega⟩
      rw [upd_ne nb]
      have e2 := sb (.lst [.int s1, .int d0, .int (c0 + 1)]) b o nb e
      exact hp_new e2 hq
    · tm_at "wp"
      refine w_ixL (SqL.of upd_same) (v := .int s1) rfl ?_
      tm_at "wp"
      refine k _ s1 d0 (c0 + 1) _ (Int.emod_nonneg _ (by omega)) (Int.emod_lt_of_pos _ m0) (sb _) upd_same ⟨b0, b1, v2, by omega⟩
theorem ok__law_draw {P : Program} {w : World} {K : PySem.W.Frag} {mg : Str → Option Value} {base : Heap} (fr : Fre mg) (D : Dfd K mg "_law_draw" s__law_draw) : Has P w K mg base CX0 1 "_law_draw" s__law_draw ["_law_pool_here", "_law_many"] (sp__law_draw K) := has_draw (okc__law_draw fr D) rfl
theorem ok__law_words {P : Program} {w : World} {K : PySem.W.Frag} {mg : Str → Option Value} {base : Heap} (fr : Fre mg) (D : Dfd K mg "_law_words" s__law_words)
    (h__law_draw : Has P w K mg base CX0 1 "_law_draw" s__law_draw ["_law_pool_here", "_law_many"] (sp__law_draw K)) : Has P w K mg base CX0 2 "_law_words" s__law_words ["_law_pool_here", "_law_many"] (sp__law_words K) := by
  refine D.has sc__law_words (fun vs H Q E h => ?_) (fun cdv A outer s H vs Q E hr hg h => ?_)
  · obtain ⟨p, m, rfl, _⟩ := h; rfl
  · obtain ⟨p, m, rfl, hp, m0, m1, k⟩ := h
    have nd := sc__law_words.nd
    refine ⟨_, PSs.nox (pss_cons (ps_set (i := 2) nd rfl (Or.inr rfl) pe_str)
      (pss_cons (ps_set (i := 3) nd rfl (Or.inr rfl) (pe_lst (pa_cons pe_str (pa_cons pe_str (pa_cons pe_str (pa_cons pe_str (pa_cons pe_str (pa_cons pe_str (pa_cons pe_str (pa_cons pe_str (pa_cons pe_str (pa_cons pe_str (pa_cons pe_str pa_nil)))))))))))))
      (pss_cons (ps_set (i := 3) nd rfl (Or.inr rfl) (pe_op op_cat (pv 3) (pe_lst (pa_cons pe_str (pa_cons pe_str (pa_cons pe_str (pa_cons pe_str pa_nil)))))))
      (pss_cons (ps_asg (pe_tup (pa_cons (pe_fn h__law_draw pb__law_draw (hr.mono (by decide)) hg rfl pass0 (pa_cons (pv 0) (pa_cons pe_int pa_nil))) (pa_cons (pe_fn h__law_draw pb__law_draw (hr.mono (by decide)) hg rfl pass0 (pa_cons (pv 0) (pa_cons pe_int pa_nil))) pa_nil))) (k_gtup K (n := 2) rfl (pgs_cons (pg_name (i := 4) nd rfl (Or.inl rfl)) (pgs_cons (pg_name (i := 5) nd rfl (Or.inr rfl)) pgs_nil))))
      (pss_cons (ps_if (pt_cmpR op_eq (pv 4) pe_int (nomark _)) (pss_one (ps_ret (pe_lc (own := [("_law_k", 6)]) (g := gName 6) (tt := tYes) rfl nd (pi_range1 rfl fr.range_ (pa_cons (pv 1) pa_nil)) (blkOk_by (own := [("_law_k", 6)]) (N := N__law_words) (sc := defScope s__law_words) (by decide +kernel)) (fun _ _ _ _ _ => (pg_name (i := 6) nd rfl (Or.inl rfl))) (fun _ _ _ _ _ => pts_nil) (fun _ _ _ _ _ => (pe_ix (k_ixL K) (pv 3) (pe_op op_mod (pe_op op_add (pv 5) (pe_op op_mul pe_int (pv 6))) pe_int) (fun _ _ => rfl)))))) pss_nil)
      (pss_cons (ps_if (pt_cmpR op_eq (pv 4) pe_int (nomark _)) (pss_one (ps_ret (pe_lc (own := [("_law_k", 6)]) (g := gName 6) (tt := tYes) rfl nd (pi_range1 rfl fr.range_ (pa_cons (pv 1) pa_nil)) (blkOk_by (own := [("_law_k", 6)]) (N := N__law_words) (sc := defScope s__law_words) (by decide +kernel)) (fun _ _ _ _ _ => (pg_name (i := 6) nd rfl (Or.inl rfl))) (fun _ _ _ _ _ => pts_nil) (fun _ _ _ _ _ => (pe_op o_mulS (pe_ix ix_str (pv 2) (pe_op op_mod (pe_op op_add (pv 5) (pe_op op_mul pe_int (pv 6))) pe_int) (fun _ _ => rfl)) (pe_op op_add pe_int (pe_op op_mod (pv 6) pe_int))))))) pss_nil)
      (pss_cons (ps_set (i := 7) nd rfl (Or.inr rfl) (k_join K pe_str (pe_lc (own := [("_law_k", 6)]) (g := gName 6) (tt := tYes) rfl nd (pi_range1 rfl fr.range_ (pa_cons (pe_fn h__law_draw pb__law_draw (hr.mono (by decide)) hg rfl pass0 (pa_cons (pv 0) (pa_cons pe_int pa_nil))) pa_nil)) (blkOk_by (own := [("_law_k", 6)]) (N := N__law_words) (sc := defScope s__law_words) (by decide +kernel)) (fun _ _ _ _ _ => (pg_name (i := 6) nd rfl (Or.inl rfl))) (fun _ _ _ _ _ => pts_nil) (fun _ _ _ _ _ => (pe_ix ix_str (pv 2) (pe_fn h__law_draw pb__law_draw (hr.mono (by decide)) hg rfl pass0 (pa_cons (pv 0) (pa_cons pe_int pa_nil))) (fun _ _ => rfl))))))
      (pss_cons (ps_set (i := 8) nd rfl (Or.inr rfl) (pe_fn h__law_draw pb__law_draw (hr.mono (by decide)) hg rfl pass0 (pa_cons (pv 0) (pa_cons (pe_op op_add (pe_callB (k_len K) rfl fr.len_ (by decide +kernel) (pa_cons (pv 7) pa_nil)) pe_int) pa_nil))))
      (pss_one (ps_ret (pe_lc (own := [("_law_k", 6)]) (g := gName 6) (tt := tYes) rfl nd (pi_range1 rfl fr.range_ (pa_cons (pv 1) pa_nil)) (blkOk_by (own := [("_law_k", 6)]) (N := N__law_words) (sc := defScope s__law_words) (by decide +kernel)) (fun _ _ _ _ _ => (pg_name (i := 6) nd rfl (Or.inl rfl))) (fun _ _ _ _ _ => pts_nil) (fun _ _ _ _ _ => (pe_op o_addS (pe_op o_addS (pe_slice sl_str (pv 7) po_none (po_some (pv 8))) (pe_ix ix_str (pv 2) (pe_op op_mod (pe_op op_add (pv 5) (pe_op op_mul pe_int (pv 6))) pe_int) (fun _ _ => rfl))) (pe_slice sl_str (pv 7) (po_some (pv 8)) po_none)))))))))))))), ?_⟩
    try dsimp only [cxOf]
    have fin : ∀ (f : Nat → Str) (D0 : Addr) (acc : List V) (H1 H2 : Hp), Same H H1 → H1 D0 = none → Same H1 H2 → H2 D0 = some (.lst acc) → acc.length = m.toNat → (∀ (i : Nat) (y : V), acc[i]? = some y → y = .str (f i)) → (((List.range 15).map f).Nodup ∧ ∀ w ∈ (List.range 15).map f, isName w = true) → Q (.ref D0) H2 := by
      intro f D0 acc H1 H2 s1 h0 s2 ha hl hf hw
      refine k D0 ((List.range m.toNat).map f) H2 (s1.free h0) (s1.trans s2) ?_ (words_mk (by omega) hw)
      rw [ha]
      have e : acc = (List.range m.toNat).map fun i => V.str (f i) := acc_map (by simpa using hl) fun i y e => by
        obtain ⟨h3, _⟩ := List.getElem?_eq_some_iff.mp e
        exact ⟨i, List.getElem?_range (by omega), hf i y e⟩
      rw [e, List.map_map]; rfl
    tm_at "wp"
    rename_i A hA B hB
    refine w_cat (xs := (menuW.take 11).map V.str) (zs := (menuW.drop 11).map V.str) (hp_new upd_same hB) upd_same (sz_le (by decide)) ?_
    intro ml hml
    have s0 : Same H _ := ((same_new hA (u := HO.lst ((menuW.take 11).map V.str))).trans (same_new hB (u := HO.lst ((menuW.drop 11).map V.str)))).trans (same_new hml (u := HO.lst ((menuW.take 11).map V.str ++ (menuW.drop 11).map V.str)))
    have f0 := @upd_same (upd (upd H A (HO.lst ((menuW.take 11).map V.str))) B (HO.lst ((menuW.drop 11).map V.str))) ml (HO.lst ((menuW.take 11).map V.str ++ (menuW.drop 11).map V.str))
    tm_at "wp"
    refine ⟨p, 3, rfl, s0 _ _ hp, by decide, by decide, fun way H1 w0 w1 s1 => ?_⟩
    tm_at "wp"
    refine ⟨p, 15, rfl, s1 _ _ (s0 _ _ hp), by decide, by decide, fun b H2 b0 b1 s2 => ?_⟩
    have s02 : Same H H2 := (s0.trans s1).trans s2
    have hm2 : SqL K H2 ml (menuW.map V.str) := SqL.of (s2 _ _ (s1 _ _ f0))
    have hp2 : H2 p = some (poolO p) := s02 _ _ hp
    tm_at "wp"
    rename_i tp htp
    refine w_gtup (SqT.of upd_same) rfl ?_
    have s3 : Same H2 (upd H2 tp (.tup [.int way, .int b])) := same_new htp
    have s03 := s02.trans s3
    generalize hH3 : upd H2 tp (.tup [.int way, .int b]) = H3 at s3 s03
    have hm3 := s3.seq hm2
    have hp3 := s3 _ _ hp2
    tm_at "wp"
    refine w_ited (fun h1 => ?_) (fun h1 => ?_)
    · tm_at "wp"
      refine w_onR1 ⟨by omega, by omega⟩ ?_
      intro D0 hD
      refine lc_map walk_range (n := m.toNat) (by omega) (fun i y => y = .str (wordA b.toNat i)) hD (fun _ _ => trivial) ?_ ?_ mono_gname
      · rintro i y H4 H5 hi s4 ⟨rfl, rfl⟩ Qy hq
        refine w_gname ⟨rfl, ?_⟩
        tm_at "wp"
        refine w_ixL (s4.seq hm3) (v := .str (wordA b.toNat i)) ?_ (hq _ _ (Same.refl _) rfl)
        refine at_of (j := (b.toNat + 4 * i) % 15) (by omega) ?_
        have hlt : (b.toNat + 4 * i) % 15 < menuW.length := by show _ < 15; omega
        rw [List.getElem?_map, List.getElem?_eq_getElem hlt]
        simp [wordA, List.getD, List.getElem?_eq_getElem hlt]
      · intro acc H4 s4 h0 ha hl hf
        exact fin _ D0 acc H3 H4 s03 h0 s4 ha hl hf (wordA_all b.toNat (by omega))
    · tm_at "wp"
      refine w_ited (fun h2 => ?_) (fun h2 => ?_)
      · tm_at "wp"
        refine w_onR1 ⟨by omega, by omega⟩ ?_
        intro D0 hD
        refine lc_map walk_range (n := m.toNat) (by omega) (fun i y => y = .str (wordB b.toNat i)) hD (fun _ _ => trivial) ?_ ?_ mono_gname
        · rintro i y H4 H5 hi s4 ⟨rfl, rfl⟩ Qy hq
          refine w_gname ⟨rfl, ?_⟩
          tm_at "wp"
          refine w_ixS (z := letters) (by decide +kernel) (letters_at (Int.emod_nonneg _ (by decide)) (Int.emod_lt_of_pos _ (by decide))) ?_
          tm_at "wp"
          refine w_mulS (n := 1 + i % 8) (by omega) (by show 1 * _ ≤ _; omega) (by omega) (hq _ _ (Same.refl _) ?_)
          unfold wordB
          rw [show ((b + 7 * (0 + (i : Int))) % 26).toNat = (b.toNat + 7 * i) % 26 by omega]
        · intro acc H4 s4 h0 ha hl hf
          exact fin _ D0 acc H3 H4 s03 h0 s4 ha hl hf (wordB_all b.toNat (by omega))
      · tm_at "wp"
        refine ⟨p, 8, rfl, hp3, by decide, by decide, fun n8 H4 n0 n1 s4 => ?_⟩
        tm_at "wp"
        refine w_onR1 ⟨by omega, by omega⟩ ?_
        intro D0 hD
        have hp4 := s4 _ _ hp3
        refine lc_map walk_range (n := n8.toNat) (by omega) (fun i y => ∃ c, y = .str ⟨#[c]⟩ ∧ isLet c = true) hD (fun _ _ => trivial) ?_ ?_ mono_gname
        · rintro i y H5 H6 hi s5 ⟨rfl, rfl⟩ Qy hq
          refine w_gname ⟨rfl, ?_⟩
          tm_at "wp"
          refine ⟨p, 26, rfl, s5 _ _ hp4, by decide, by decide, fun c H6 c0 c1 s6 => ?_⟩
          tm_at "wp"
          refine w_ixS (z := letters) (by decide +kernel) (letters_at c0 c1) (hq _ _ s6 ⟨_, rfl, ?_⟩)
          unfold isLet
          rw [decide_eq_true (by omega), decide_eq_true (by omega)]; rfl
        · intro acc H5 s5 h0 ha hl hf
          obtain ⟨ys, ey, hy⟩ : ∃ ys : List Str, acc = ys.map V.str ∧ ∀ y ∈ ys, ∃ c, y = ⟨#[c]⟩ ∧ isLet c = true := by
            refine ⟨acc.map fun v => match v with | .str y => y | _ => Str.empty, ?_, fun y hy => ?_⟩
            · rw [List.map_map]
              refine (List.map_id acc).symm.trans (List.map_congr_left fun v hv => ?_)
              obtain ⟨i, hi, e⟩ := List.mem_iff_getElem.mp hv
              obtain ⟨c, e2, _⟩ := hf i v (by rw [List.getElem?_eq_getElem hi, e])
              subst e2; rfl
            · obtain ⟨v, hv, e⟩ := List.mem_map.mp hy
              obtain ⟨i, hi, e1⟩ := List.mem_iff_getElem.mp hv
              obtain ⟨c, e2, hc⟩ := hf i v (by rw [List.getElem?_eq_getElem hi, e1])
              subst e2
              exact ⟨c, e.symm, hc⟩
          have hyl : ys.length = n8.toNat := by rw [← hl, ey, List.length_map]
          have flat : ∀ l : List Str, (∀ y ∈ l, ∃ c, y = ⟨#[c]⟩ ∧ isLet c = true) → (l.map fun y => y.cps.toList).flatten.length = l.length ∧ (∀ c ∈ (l.map fun y => y.cps.toList).flatten, isLet c = true) ∧ (l.map (·.length)).sum = l.length := by
            intro l
            induction l with
            | nil => intro _; simp
            | cons y r ih =>
              intro h
              obtain ⟨c, rfl, hc⟩ := h _ List.mem_cons_self
              obtain ⟨i1, i2, i3⟩ := ih fun z hz => h z (List.mem_cons_of_mem _ hz)
              refine ⟨by simp at i1 ⊢; omega, fun d hd => ?_, ?_⟩
              · simp at hd
                rcases hd with h1 | h1
                · rw [h1]; exact hc
                · exact i2 d (by simpa using h1)
              · simp only [List.map_cons, List.sum_cons, List.length_cons]
                have : (⟨#[c]⟩ : Str).length = 1 := rfl
                omega
          obtain ⟨f1, f2, f3⟩ := flat ys hy
          subst ey
          refine w_join (SqL.of ha) (by rw [f3]; show _ + _ * 0 ≤ _; omega) ?_
          rw [txt_join_eq]
          generalize hst : Str.join (Str.ofString "") ys = stem
          have est : stem.cps.toList = (ys.map fun y => y.cps.toList).flatten := by rw [← hst]; exact join0_list ys
          have lst : stem.length = n8.toNat := by rw [len_list, est, f1, hyl]
          have s05 : Same H H5 := (s03.trans s4).trans s5
          tm_at "wp"
          refine w_lenS (sz_le (by omega)) ?_
          tm_at "wp"
          refine ⟨p, _, rfl, s05 _ _ hp, by omega, by omega, fun at_ H6 a0 a1 s6 => ?_⟩
          have s06 := s05.trans s6
          obtain ⟨q, rfl⟩ := Int.eq_ofNat_of_zero_le a0
          have hsz : stem.cps.size = stem.length := rfl
          tm_at "wp"
          refine w_onR1 ⟨by omega, by omega⟩ ?_
          intro D1 hD1
          refine lc_map walk_range (n := m.toNat) (by omega) (fun i y => y = .str (wordC b.toNat (stem.cps.toList.take q) (stem.cps.toList.drop q) i)) hD1 (fun _ _ => trivial) ?_ ?_ mono_gname
          · rintro i y H7 H8 hi s7 ⟨rfl, rfl⟩ Qy hq
            have c1 : cutS stem none (some ((q : Nat) : Int)) = ⟨(stem.cps.toList.take q).toArray⟩ := by
              unfold cutS
              rw [HT.sIx_nat, HT.sIx_none, Nat.min_eq_left (by omega)]
              simp
            have c2 : cutS stem (some ((q : Nat) : Int)) none = ⟨(stem.cps.toList.drop q).toArray⟩ := by
              unfold cutS
              rw [HT.sIx_nat, HT.sIx_none, Nat.min_eq_left (by omega)]
              have : stem.cps.toList.length = stem.length := (len_list stem).symm
              rw [List.take_of_length_le (by rw [List.length_drop]; omega)]
            refine w_gname ⟨rfl, ?_⟩
            tm_at "wp"
            refine w_slS (sz_le (by omega)) ?_
            tm_at "wp"
            refine w_ixS (z := letters) (by decide +kernel) (letters_at (Int.emod_nonneg _ (by decide)) (Int.emod_lt_of_pos _ (by decide))) ?_
            rw [c1]
            refine w_addS (sz_le ?_) ?_
            · rw [len_list, len_list]; simp; omega
            tm_at "wp"
            refine w_slS (sz_le (by omega)) ?_
            rw [c2]
            refine w_addS (sz_le ?_) (hq _ _ (Same.refl _) ?_)
            · rw [len_list, len_list, app_list]; simp; omega
            · congr 1
              refine str_ext ?_
              rw [app_list, app_list]
              unfold wordC
              rw [show ((b + 5 * (0 + (i : Int))) % 26).toNat = (b.toNat + 5 * i) % 26 by omega]
              simp
          · intro acc2 H7 s7 h02 ha2 hl2 hf2
            refine fin _ D1 acc2 H6 H7 s06 h02 s7 ha2 hl2 hf2 (wordC_all (by omega) (fun c hc => f2 c (est ▸ List.mem_of_mem_take hc)) (fun c hc => f2 c (est ▸ List.mem_of_mem_drop hc)) ?_)
            rw [List.length_take, List.length_drop, ← len_list]; omega
theorem ok__law_often {P : Program} {w : World} {K : PySem.W.Frag} {mg : Str → Option Value} {base : Heap} (fr : Fre mg) (D : Dfd K mg "_law_often" s__law_often)
    (h__law_draw : Has P w K mg base CX0 1 "_law_draw" s__law_draw ["_law_pool_here", "_law_many"] (sp__law_draw K)) : Has P w K mg base CX0 2 "_law_often" s__law_often ["_law_pool_here"] (sp__law_often K) := by
  refine D.has sc__law_often (fun vs H Q E h => ?_) (fun cdv A outer s H vs Q E hr hg h => ?_)
  · obtain ⟨p, rfl, _⟩ := h; rfl
  · obtain ⟨p, rfl, hp, k⟩ := h
    have nd := sc__law_often.nd
    refine ⟨_, PSs.nox (pss_cons (ps_set (i := 1) nd rfl (Or.inl rfl) (pe_fn h__law_draw pb__law_draw (hr.mono (by decide)) hg rfl pass0 (pa_cons (pv 0) (pa_cons pe_int pa_nil))))
      (pss_one (ps_ret (pe_ix (k_ixL K) (pe_lst (pa_cons pe_int (pa_cons pe_int (pa_cons pe_int (pa_cons (pe_op op_add pe_int (pe_fn h__law_draw pb__law_draw (hr.mono (by decide)) hg rfl pass0 (pa_cons (pv 0) (pa_cons pe_int pa_nil)))) (pa_cons (pe_op op_add pe_int (pe_fn h__law_draw pb__law_draw (hr.mono (by decide)) hg rfl pass0 (pa_cons (pv 0) (pa_cons (pe_op op_pow pe_int pe_int) pa_nil)))) (pa_cons (pe_op op_pow pe_int pe_int) pa_nil))))))) (pv 1) (fun _ _ => rfl))))), ?_⟩
    try dsimp only [cxOf]
    tm_at "wp"
    refine ⟨p, 6, rfl, hp, by decide, by decide, fun way H1 w0 w1 s1 => ?_⟩
    tm_at "wp"
    refine ⟨p, 30, rfl, s1 _ _ hp, by decide, by decide, fun a H2 a0 a1 s2 => ?_⟩
    have s02 := s1.trans s2
    tm_at "wp"
    refine ⟨p, _, rfl, s02 _ _ hp, by decide, by decide, fun b H3 b0 b1 s3 => ?_⟩
    have s03 := s02.trans s3
    tm_at "wp"
    rename_i q hq
    have s04 : Same H (upd H3 q (.lst [.int 1, .int 2, .int 3, .int (1 + a), .int (1 + b), .int ((10 : Int) ^ (30 : Int).toNat)])) := same_step s03 hq
    have e30 : (10 : Int) ^ (30 : Int).toNat = 10 ^ 30 := by decide
    rw [e30] at b1 s04 ⊢
    obtain ⟨n, rfl⟩ := Int.eq_ofNat_of_zero_le w0
    have fin : ∀ r : Int, 1 ≤ r → r ≤ 10 ^ 30 → [V.int 1, .int 2, .int 3, .int (1 + a), .int (1 + b), .int (10 ^ 30)][n]? = some (.int r) → rIxL K (.ref q) (.int ((n : Nat) : Int)) (upd H3 q (.lst [.int 1, .int 2, .int 3, .int (1 + a), .int (1 + b), .int (10 ^ 30)])) Q := fun r r0 r1 e =>
      w_ixL (SqL.of upd_same) (atI_nat e) (k r _ r0 r1 s04)
    have hn : n < 6 := by omega
    match n, hn with
    | 0, _ => exact fin 1 (by decide) (by decide) rfl
    | 1, _ => exact fin 2 (by decide) (by decide) rfl
    | 2, _ => exact fin 3 (by decide) (by decide) rfl
    | 3, _ => exact fin (1 + a) (by omega) (by omega) rfl
    | 4, _ => exact fin (1 + b) (by omega) (by omega) rfl
    | 5, _ => exact fin (10 ^ 30) (by decide) (by decide) rfl
theorem ok__law_bag {P : Program} {w : World} {K : PySem.W.Frag} {mg : Str → Option Value} {base : Heap} (fr : Fre mg) (D : Dfd K mg "_law_bag" s__law_bag)
    (h__law_draw : Has P w K mg base CX0 1 "_law_draw" s__law_draw ["_law_pool_here", "_law_many"] (sp__law_draw K))
    (h__law_often : Has P w K mg base CX0 2 "_law_often" s__law_often ["_law_pool_here"] (sp__law_often K)) : Has P w K mg base CX0 3 "_law_bag" s__law_bag ["_law_pool_here", "_law_words_here", "_law_most"] (sp__law_bag K) := by
  refine D.has sc__law_bag (fun vs H Q E h => ?_) (fun cdv A outer s H vs Q E hr hg h => ?_)
  · obtain ⟨p, a, ws, m, n, rfl, _⟩ := h; rfl
  · obtain ⟨p, a, ws, m, n, rfl, hp, hs, hw, hn, m0, m1, k⟩ := h
    have nd := sc__law_bag.nd
    refine ⟨_, PSs.nox (pss_cons (ps_set (i := 3) nd rfl (Or.inl rfl) (pe_lst pa_nil))
      (pss_cons (ps_for PassesOwn.never rfl (k_iList K (pe_callB (k_sortedS K) rfl fr.sorted_ (by decide +kernel) (pa_cons (pv 1) pa_nil))) (pg_name (i := 4) nd rfl (Or.inl rfl))
        (pss_one (ps_if (pt_cmpR op_gt (pe_fn h__law_draw pb__law_draw (hr.mono (by decide)) hg rfl pass0 (pa_cons (pv 0) (pa_cons pe_int pa_nil))) pe_int (nomark _)) (pss_one (ps_expr (k_bm K PySem.F.plainAttrs_list PySem.F.slot_list_append PySem.F.type_list_append mt_append (pv 3) (pa_cons (pe_tup (pa_cons (pv 4) (pa_cons (pe_ifExp (pt_cmpR op_eq (pv 2) pe_int (nomark _)) (pe_fn h__law_often pb__law_often (hr.mono (by decide)) hg rfl pass0 (pa_cons (pv 0) pa_nil)) (pe_op op_add pe_int (pe_fn h__law_draw pb__law_draw (hr.mono (by decide)) hg rfl pass0 (pa_cons (pv 0) (pa_cons (pv 2) pa_nil))))) pa_nil))) pa_nil)))) pss_nil)))
      (pss_one (ps_ret (pe_callTy (k_tuple K) rfl fr.tuple_ (by decide +kernel) (pa_cons (pv 3) pa_nil)))))), ?_⟩
    try dsimp only [cxOf]
    tm_at "wp"
    rename_i l hl
    refine w_sortedS ((same_new hl).seq hs) (by rw [hw.len]; exact hn) ?_
    intro ys q hperm hsorted hq
    have hlq : l ≠ q := ne_fresh (upd_same) hq
    have hlen : ys.length = n := by rw [hperm.length_eq, hw.len]
    have asc := sorted_asc hsorted (hperm.nodup_iff.mpr hw.nd)
    have mem : ∀ w ∈ ys, w ∈ ws := fun w h => hperm.mem_iff.mp h
    have s1 : Same H (upd (upd H l (.lst [])) q (.lst (ys.map V.str))) := same_step (same_new hl) hq
    have hq0 : H q = none := free_upd hq
    refine w_onL (SqL.of upd_same) ?_
    refine for_go (walk_list (xs := ys.map V.str)) (fun i σ H' => ∃ (u : Option V) (ps : Bag) (xs : List V), σ = [some (.ref p), some (.ref a), some (.int m), some (.ref l), u] ∧ Same H H' ∧ H' q = some (.lst (ys.map V.str)) ∧ H' l = some (.lst xs) ∧ DpAll K H' xs (ps.map pairD) ∧ BagOk ps ∧ (∀ z ∈ ps, z.1 ∈ ys.take i) ∧ ps.length ≤ i ∧ (∀ z ∈ ps, z.2 ≤ 10 ^ 30) ∧ (0 < m → ∀ z ∈ ps, z.2 ≤ m))
      ⟨none, [], [], rfl, s1, upd_same, (upd_ne hlq).trans upd_same, .nil, ⟨.nil, nofun, nofun⟩, nofun, Nat.le_refl _, nofun, fun _ => nofun⟩ (fun i σ H' _ ⟨_, _, _, _, _, h, _⟩ => SqL.of h) ?_ ?_
    · rintro i v σ H1 H2 hi ⟨u, ps, xs, rfl, s2, hq2, hl2, hd, hb, hm, hlp, hc, hc2⟩ ⟨rfl, hy⟩
      rw [List.length_map] at hi
      have ey : v = .str ys[i] := by rw [List.getElem?_map, List.getElem?_eq_getElem hi] at hy; exact (Option.some.inj hy).symm
      subst ey
      have ht : ys.take (i + 1) = ys.take i ++ [ys[i]] := take_succ_snoc (List.getElem?_eq_getElem hi)
      have hxl : xs.length = ps.length := by rw [dps_len hd, List.length_map]
      have skip : ∀ (u' : Option V) H', Same H2 H' → ∃ (u : Option V) (ps : Bag) (xs : List V), [some (V.ref p), some (V.ref a), some (V.int m), some (V.ref l), u'] = [some (.ref p), some (.ref a), some (.int m), some (.ref l), u] ∧ Same H H' ∧ H' q = some (.lst (ys.map V.str)) ∧ H' l = some (.lst xs) ∧ DpAll K H' xs (ps.map pairD) ∧ BagOk ps ∧ (∀ z ∈ ps, z.1 ∈ ys.take (i + 1)) ∧ ps.length ≤ i + 1 ∧ (∀ z ∈ ps, z.2 ≤ 10 ^ 30) ∧ (0 < m → ∀ z ∈ ps, z.2 ≤ m) := fun u' H' s' =>
        ⟨u', ps, xs, rfl, s2.trans s', s' _ _ hq2, s' _ _ hl2, dps_same s' hd, hb, fun z hz => by rw [ht]; exact List.mem_append_left _ (hm z hz), Nat.le_succ_of_le hlp, hc, hc2⟩
      have app : ∀ (c : Int) (T : Addr) H', 1 ≤ c → c ≤ 10 ^ 30 → (0 < m → c ≤ m) → Same H2 H' → H' T = none → ∀ u' : Option V, rAppend (.ref l) [.ref T] (upd H' T (.tup [.str ys[i], .int c])) (fun _ H3 => ∃ (u : Option V) (ps : Bag) (xs : List V), [some (V.ref p), some (V.ref a), some (V.int m), some (V.ref l), u'] = [some (.ref p), some (.ref a), some (.int m), some (.ref l), u] ∧ Same H H3 ∧ H3 q = some (.lst (ys.map V.str)) ∧ H3 l = some (.lst xs) ∧ DpAll K H3 xs (ps.map pairD) ∧ BagOk ps ∧ (∀ z ∈ ps, z.1 ∈ ys.take (i + 1)) ∧ ps.length ≤ i + 1 ∧ (∀ z ∈ ps, z.2 ≤ 10 ^ 30) ∧ (0 < m → ∀ z ∈ ps, z.2 ≤ m)) := by
        intro c T H' c0 c1 c2 s' hT u'
        have hl3 : (upd H' T (.tup [.str ys[i], .int c])) l = some (.lst xs) := hp_new (s' _ _ hl2) hT
        refine w_append hl3 (sz_lt (by omega)) ⟨u', ps ++ [(ys[i], c)], xs ++ [.ref T], rfl, same_mut (same_step (s2.trans s') hT) hl, ?_, upd_same, ?_, ?_, ?_, ?_, ?_, ?_⟩
        · rw [upd_ne (ne_of hl3 (hp_new (s' _ _ hq2) hT) ?_).symm]
          · exact hp_new (s' _ _ hq2) hT
          · intro z
            injection z with z
            have := congrArg List.length z
            rw [List.length_map] at this
            omega
        · have st : SameT (upd H' T (.tup [.str ys[i], .int c])) (upd (upd H' T (.tup [.str ys[i], .int c])) l (.lst (xs ++ [.ref T]))) := SameT.lst hl3
          rw [List.map_append]
          refine dps_snoc ?_ ?_
          · exact dps_flat st (dps_same (s'.trans (same_new hT)) hd) (by have := flat_bag ps; simpa [bagD, flatD] using this)
          · exact pair_mk (st.sqt (SqT.of upd_same))
        · refine ⟨?_, ?_, ?_⟩
          · rw [List.pairwise_append]
            refine ⟨hb.asc, List.pairwise_singleton _ _, fun z hz z' hz' => ?_⟩
            rw [List.mem_singleton] at hz'
            subst hz'
            exact asc_take asc hi (hm z hz)
          · intro z hz
            rcases List.mem_append.mp hz with h | h
            · exact hb.nam z h
            · rw [List.mem_singleton] at h; subst h
              exact hw.nam _ (mem _ (List.getElem_mem hi))
          · intro z hz
            rcases List.mem_append.mp hz with h | h
            · exact hb.pos z h
            · rw [List.mem_singleton] at h; subst h; exact c0
        · intro z hz
          rw [ht]
          rcases List.mem_append.mp hz with h | h
          · exact List.mem_append_left _ (hm z h)
          · rw [List.mem_singleton] at h; subst h; exact List.mem_append_right _ (List.mem_singleton.mpr rfl)
        · simp; omega
        · intro z hz
          rcases List.mem_append.mp hz with h | h
          · exact hc z h
          · rw [List.mem_singleton] at h; subst h; exact c1
        · intro m2 z hz
          rcases List.mem_append.mp hz with h | h
          · exact hc2 m2 z h
          · rw [List.mem_singleton] at h; subst h; exact c2 m2
      tm_at "wp"
      refine ⟨p, 4, rfl, s2 _ _ hp, by decide, by decide, fun r H3 r0 r1 s3 => ?_⟩
      tm_at "wp"
      refine w_ited (fun h1 => ?_) (fun h1 => ?_)
      · tm_at "wp"
        refine w_tyL (s3 _ _ hl2) ?_
        tm_at "wp"
        refine w_ited (fun h2 => ?_) (fun h2 => ?_)
        · tm_at "wp"
          refine ⟨p, rfl, (s2.trans s3) _ _ hp, fun c H4 c0 c1 s4 => ?_⟩
          tm_at "wp"
          rename_i T hT
          exact app c T H4 c0 c1 (fun h => by omega) (s3.trans s4) hT _
        · tm_at "wp"
          refine ⟨p, m, rfl, (s2.trans s3) _ _ hp, by omega, by omega, fun c H4 c0 c1 s4 => ?_⟩
          tm_at "wp"
          rename_i T hT
          exact app (1 + c) T H4 (by omega) (by omega) (fun h => by omega) (s3.trans s4) hT _
      · tm_at "wp"
        exact skip _ _ s3
    · rintro σ H1 ⟨u, ps, xs, rfl, s2, hq2, hl2, hd, hb, hm, hlp, hc, hc2⟩
      rw [List.length_map] at hlp hm
      tm_at "wp"
      refine w_tupL (SqL.of hl2) ?_
      intro T hT
      refine k (.ref T) ps _ (same_step s2 hT) (.tup (SqT.of upd_same) (dps_same (same_new hT) hd)) hb (fun z hz => mem _ (List.mem_of_mem_take (hm z hz))) (by omega) hc hc2
theorem ok__law_kind {P : Program} {w : World} {K : PySem.W.Frag} {mg : Str → Option Value} {base : Heap} (fr : Fre mg) (xE : ExF K mg) (D : Dfd K mg "_law_kind" s__law_kind) : HasP P w K mg base 1 "_law_kind" s__law_kind ["_law_e"] (sp__law_kind K) := by
  refine D.hasP sc__law_kind (fun p vs H Q E h => ?_) (fun cdv A outer s H vs Q E p hr hg h => ?_)
  · obtain ⟨e, y, dd, rfl, _⟩ := h; rfl
  · obtain ⟨e, y, dd, rfl, he, hh, k⟩ := h
    have nd := sc__law_kind.nd
    have held : ∀ {X : Cx}, p ∈ X.pn → Held X p (He.ga K e.1) dd := fun hp => ⟨hp, hh.1, hh.2.1⟩
    refine ⟨_, (pss_cons (ps_set (i := 1) nd rfl (Or.inl rfl) (pe_lst (pa_cons (pe_callB (k_isP K (xE.ec e he) (held List.mem_cons_self)) rfl fr.isinstance_ (by decide +kernel) (pa_cons (pv 0) (pa_cons (pe_glob (v := .ref (He.ga K "InvalidCapacity")) rfl (xE.glo "InvalidCapacity" (by decide +kernel)) rfl) pa_nil))) (pa_cons (pe_callB (k_isP K (xE.ec e he) (held List.mem_cons_self)) rfl fr.isinstance_ (by decide +kernel) (pa_cons (pv 0) (pa_cons (pe_glob (v := .ref (He.ga K "InvalidName")) rfl (xE.glo "InvalidName" (by decide +kernel)) rfl) pa_nil))) (pa_cons (pe_callB (k_isP K (xE.ec e he) (held List.mem_cons_self)) rfl fr.isinstance_ (by decide +kernel) (pa_cons (pv 0) (pa_cons (pe_glob (v := .ref (He.ga K "InvalidTimes")) rfl (xE.glo "InvalidTimes" (by decide +kernel)) rfl) pa_nil))) pa_nil)))))
      (pss_cons (ps_set (i := 1) nd rfl (Or.inl rfl) (pe_op op_cat (pv 1) (pe_lst (pa_cons (pe_callB (k_isP K (xE.ec e he) (held List.mem_cons_self)) rfl fr.isinstance_ (by decide +kernel) (pa_cons (pv 0) (pa_cons (pe_glob (v := .ref (He.ga K "InvalidCounts")) rfl (xE.glo "InvalidCounts" (by decide +kernel)) rfl) pa_nil))) (pa_cons (pe_callB (k_isP K (xE.ec e he) (held List.mem_cons_self)) rfl fr.isinstance_ (by decide +kernel) (pa_cons (pv 0) (pa_cons (pe_glob (v := .ref (He.ga K "InvalidSummary")) rfl (xE.glo "InvalidSummary" (by decide +kernel)) rfl) pa_nil))) pa_nil)))))
      (pss_cons (ps_set (i := 1) nd rfl (Or.inl rfl) (pe_op op_cat (pv 1) (pe_lst (pa_cons (pe_callB (k_isP K (xE.ec e he) (held List.mem_cons_self)) rfl fr.isinstance_ (by decide +kernel) (pa_cons (pv 0) (pa_cons (pe_glob (v := .ref (He.ga K "InvalidOrder")) rfl (xE.glo "InvalidOrder" (by decide +kernel)) rfl) pa_nil))) pa_nil))))
      (pss_cons (ps_set (i := 1) nd rfl (Or.inl rfl) (pe_op op_cat (pv 1) (pe_lst (pa_cons (pe_callB (k_isP K (xE.ec e he) (held List.mem_cons_self)) rfl fr.isinstance_ (by decide +kernel) (pa_cons (pv 0) (pa_cons (pe_glob (v := .ref (He.ga K "InvalidPlan")) rfl (xE.glo "InvalidPlan" (by decide +kernel)) rfl) pa_nil))) (pa_cons (pe_callB (k_isP K (xE.ec e he) (held List.mem_cons_self)) rfl fr.isinstance_ (by decide +kernel) (pa_cons (pv 0) (pa_cons (pe_glob (v := .ref (He.ga K "InvalidText")) rfl (xE.glo "InvalidText" (by decide +kernel)) rfl) pa_nil))) (pa_cons (pe_callB (k_isP K (xE.ec e he) (held List.mem_cons_self)) rfl fr.isinstance_ (by decide +kernel) (pa_cons (pv 0) (pa_cons (pe_glob (v := .ref (He.ga K "InvalidSize")) rfl (xE.glo "InvalidSize" (by decide +kernel)) rfl) pa_nil))) pa_nil))))))
      (pss_cons (ps_set (i := 1) nd rfl (Or.inl rfl) (pe_op op_cat (pv 1) (pe_lst (pa_cons (pe_callB (k_isP K (xE.ec e he) (held List.mem_cons_self)) rfl fr.isinstance_ (by decide +kernel) (pa_cons (pv 0) (pa_cons (pe_glob (v := .ref (He.ga K "InvalidNumber")) rfl (xE.glo "InvalidNumber" (by decide +kernel)) rfl) pa_nil))) (pa_cons (pe_callB (k_isP K (xE.ec e he) (held List.mem_cons_self)) rfl fr.isinstance_ (by decide +kernel) (pa_cons (pv 0) (pa_cons (pe_glob (v := .ref (He.ga K "InvalidSlots")) rfl (xE.glo "InvalidSlots" (by decide +kernel)) rfl) pa_nil))) (pa_cons (pe_callB (k_isP K (xE.ec e he) (held List.mem_cons_self)) rfl fr.isinstance_ (by decide +kernel) (pa_cons (pv 0) (pa_cons (pe_glob (v := .ref (He.ga K "InvalidIndex")) rfl (xE.glo "InvalidIndex" (by decide +kernel)) rfl) pa_nil))) pa_nil))))))
      (pss_cons (ps_set (i := 1) nd rfl (Or.inl rfl) (pe_op op_cat (pv 1) (pe_lst (pa_cons (pe_callB (k_isP K (xE.ec e he) (held List.mem_cons_self)) rfl fr.isinstance_ (by decide +kernel) (pa_cons (pv 0) (pa_cons (pe_glob (v := .ref (He.ga K "InvalidAction")) rfl (xE.glo "InvalidAction" (by decide +kernel)) rfl) pa_nil))) (pa_cons (pe_callB (k_isP K (xE.ec e he) (held List.mem_cons_self)) rfl fr.isinstance_ (by decide +kernel) (pa_cons (pv 0) (pa_cons (pe_glob (v := .ref (He.ga K "InvalidLine")) rfl (xE.glo "InvalidLine" (by decide +kernel)) rfl) pa_nil))) (pa_cons (pe_callB (k_isP K (xE.ec e he) (held List.mem_cons_self)) rfl fr.isinstance_ (by decide +kernel) (pa_cons (pv 0) (pa_cons (pe_glob (v := .ref (He.ga K "NotASummary")) rfl (xE.glo "NotASummary" (by decide +kernel)) rfl) pa_nil))) pa_nil))))))
      (pss_cons (ps_set (i := 1) nd rfl (Or.inl rfl) (pe_op op_cat (pv 1) (pe_lst (pa_cons (pe_callB (k_isP K (xE.ec e he) (held List.mem_cons_self)) rfl fr.isinstance_ (by decide +kernel) (pa_cons (pv 0) (pa_cons (pe_glob (v := .ref (He.ga K "CapacitiesDiffer")) rfl (xE.glo "CapacitiesDiffer" (by decide +kernel)) rfl) pa_nil))) (pa_cons (pe_callB (k_isP K (xE.ec e he) (held List.mem_cons_self)) rfl fr.isinstance_ (by decide +kernel) (pa_cons (pv 0) (pa_cons (pe_glob (v := .ref (He.ga K "Busy")) rfl (xE.glo "Busy" (by decide +kernel)) rfl) pa_nil))) (pa_cons (pe_callB (k_isP K (xE.ec e he) (held List.mem_cons_self)) rfl fr.isinstance_ (by decide +kernel) (pa_cons (pv 0) (pa_cons (pe_glob (v := .ref (He.ga K "NothingToUndo")) rfl (xE.glo "NothingToUndo" (by decide +kernel)) rfl) pa_nil))) pa_nil))))))
      (pss_cons (ps_set (i := 1) nd rfl (Or.inl rfl) (pe_op op_cat (pv 1) (pe_lst (pa_cons (pe_callB (k_isP K (xE.ec e he) (held List.mem_cons_self)) rfl fr.isinstance_ (by decide +kernel) (pa_cons (pv 0) (pa_cons (pe_glob (v := .ref (He.ga K "TooManyNames")) rfl (xE.glo "TooManyNames" (by decide +kernel)) rfl) pa_nil))) (pa_cons (pe_callB (k_isP K (xE.ec e he) (held List.mem_cons_self)) rfl fr.isinstance_ (by decide +kernel) (pa_cons (pv 0) (pa_cons (pe_glob (v := .ref (He.ga K "TooManyActions")) rfl (xE.glo "TooManyActions" (by decide +kernel)) rfl) pa_nil))) pa_nil)))))
      (pss_cons (ps_set (i := 2) nd rfl (Or.inl rfl) (pe_lst (pa_cons (pe_callB (k_isP K (xE.ec e he) (held List.mem_cons_self)) rfl fr.isinstance_ (by decide +kernel) (pa_cons (pv 0) (pa_cons (pe_glob (v := .ref (He.ga K "TallyError")) rfl (xE.glo "TallyError" (by decide +kernel)) rfl) pa_nil))) (pa_cons (pe_callB (k_isP K (xE.ec e he) (held List.mem_cons_self)) rfl fr.isinstance_ (by decide +kernel) (pa_cons (pv 0) (pa_cons (pe_glob (v := .ref (He.ga K "StateError")) rfl (xE.glo "StateError" (by decide +kernel)) rfl) pa_nil))) (pa_cons (pe_callB (k_isP K (xE.ec e he) (held List.mem_cons_self)) rfl fr.isinstance_ (by decide +kernel) (pa_cons (pv 0) (pa_cons (pe_glob (v := .ref (He.ga K "SizeError")) rfl (xE.glo "SizeError" (by decide +kernel)) rfl) pa_nil))) pa_nil)))))
      (pss_cons (ps_set (i := 3) nd rfl (Or.inl rfl) (pe_lst (pa_cons (pe_callB (k_isP K (xE.ec e he) (held List.mem_cons_self)) rfl fr.isinstance_ (by decide +kernel) (pa_cons (pv 0) (pa_cons (pe_bltn (v := .ty "ValueError") rfl xE.free.1 boot_ValueError rfl) pa_nil))) (pa_cons (pe_callB (k_isP K (xE.ec e he) (held List.mem_cons_self)) rfl fr.isinstance_ (by decide +kernel) (pa_cons (pv 0) (pa_cons (pe_bltn (v := .ty "LookupError") rfl xE.free.2.1 boot_LookupError rfl) pa_nil))) (pa_cons (pe_callB (k_isP K (xE.ec e he) (held List.mem_cons_self)) rfl fr.isinstance_ (by decide +kernel) (pa_cons (pv 0) (pa_cons (pe_bltn (v := .ty "ArithmeticError") rfl xE.free.2.2 boot_ArithmeticError rfl) pa_nil))) pa_nil)))))
      (pss_cons (ps_if (pt_cmpR op_ne (k_bm K PySem.F.plainAttrs_list PySem.F.slot_list_count PySem.F.type_list_count (k_countF K) (pv 1) (pa_cons pe_bl pa_nil)) pe_int (nomark _)) (pss_one (ps_ret pe_str)) pss_nil)
      (pss_cons (ps_set (i := 4) nd rfl (Or.inl rfl) (k_bm K PySem.F.plainAttrs_list PySem.F.slot_list_index PySem.F.type_list_index (k_index K) (pv 1) (pa_cons pe_bl pa_nil)))
      (pss_cons (ps_if (PW.pt (pw_or (pt_cmpR (k_neL K (u66H hr)) (pv 2) (pe_lst (pa_cons (pe_cmpR op_lt (pv 4) pe_int (nomark _)) (pa_cons (pe_chain op_lt op_lt pe_int (pv 4) pe_int) (pa_cons (pe_cmpR op_gt (pv 4) pe_int (nomark _)) pa_nil)))) (nomark _)) (pw_or1 (pt_cmpR (k_neL K (u66H hr)) (pv 3) (pv 2) (nomark _))))) (pss_one (ps_ret pe_str)) pss_nil)
      (pss_cons (ps_set (i := 5) nd rfl (Or.inl rfl) pe_str)
      (pss_cons (ps_set (i := 5) nd rfl (Or.inl rfl) (pe_op o_addS (pv 5) pe_str))
      (pss_one (ps_ret (pe_ix (k_ixL K) (pe_split (pv 5) pe_str) (pv 4) (fun _ _ => rfl))))))))))))))))))), ?_⟩
    try dsimp only [L2H.cxH, cxOf]
    tm_at "wk"
    rename_i q0 G0 s0 hq0
    replace hh := held_same s0 hh
    tm_at "wk"
    rename_i q1 G1 s1 hq1
    refine w_catG (by first | exact s1 _ _ hq0) (by assumption) (sz_le (by simp)) fun r1 F1 u1 hr1 => ?_
    replace hh := held_same (s1.trans u1) hh
    tm_at "wk"
    rename_i q2 G2 s2 hq2
    refine w_catG (by first | exact s2 _ _ hr1) (by assumption) (sz_le (by simp)) fun r2 F2 u2 hr2 => ?_
    replace hh := held_same (s2.trans u2) hh
    tm_at "wk"
    rename_i q3 G3 s3 hq3
    refine w_catG (by first | exact s3 _ _ hr2) (by assumption) (sz_le (by simp)) fun r3 F3 u3 hr3 => ?_
    replace hh := held_same (s3.trans u3) hh
    tm_at "wk"
    rename_i q4 G4 s4 hq4
    refine w_catG (by first | exact s4 _ _ hr3) (by assumption) (sz_le (by simp)) fun r4 F4 u4 hr4 => ?_
    replace hh := held_same (s4.trans u4) hh
    tm_at "wk"
    rename_i q5 G5 s5 hq5
    refine w_catG (by first | exact s5 _ _ hr4) (by assumption) (sz_le (by simp)) fun r5 F5 u5 hr5 => ?_
    replace hh := held_same (s5.trans u5) hh
    tm_at "wk"
    rename_i q6 G6 s6 hq6
    refine w_catG (by first | exact s6 _ _ hr5) (by assumption) (sz_le (by simp)) fun r6 F6 u6 hr6 => ?_
    replace hh := held_same (s6.trans u6) hh
    tm_at "wk"
    rename_i q7 G7 s7 hq7
    refine w_catG (by first | exact s7 _ _ hr6) (by assumption) (sz_le (by simp)) fun r7 F7 u7 hr7 => ?_
    replace hh := held_same (s7.trans u7) hh
    tm_at "wk"
    rename_i qb Gb sb hqb
    replace hh := held_same sb hh
    refine w_isPb xE he hh (xE.kb e he).1 ?_
    tm_at "wk"
    refine w_isPb xE he hh (xE.kb e he).2.1 ?_
    tm_at "wk"
    refine w_isPb xE he hh (xE.kb e he).2.2 ?_
    tm_at "wk"
    rename_i qo Go so hqo
    have hK : Go r7 = some (.lst (exBls e)) := (sb.trans so) _ _ hr7
    have hB : Go qb = some (.lst [.bl (exIs e "TallyError"), .bl (exIs e "StateError"), .bl (exIs e "SizeError")]) := so _ _ hqb
    obtain ⟨b1, b2, b3⟩ := ex_bases e he
    obtain ⟨hat, hhit⟩ := ex_hit e he
    have hmiss := ex_miss e he
    refine w_tyL hK ?_
    tm_at "wp"
    refine ⟨r7, exBls e, .bl true, rfl, rfl, SqL.of hK, rfl, ex_flat e, ?_⟩
    rw [ex_cnt e he]
    tm_at "wp"
    refine w_iten (fun z => absurd rfl z) (fun _ => ?_)
    tm_at "wp"
    refine w_tyL hK ?_
    tm_at "wp"
    refine ⟨r7, exBls e, .bl true, exAt e, .bl true, rfl, rfl, SqL.of hK, rfl, ex_flat e, ?_, rfl, ?_, ?_⟩
    · show (exLeaf.map fun C => V.bl (exIs e C))[exAt e]? = some (.bl true)
      rw [show (exLeaf.map fun C => V.bl (exIs e C)) = (exLeaf.map (exIs e)).map V.bl by rw [List.map_map]; rfl, List.getElem?_map, hhit]
      rfl
    · intro m z hm hz
      have hz : (exLeaf.map fun C => V.bl (exIs e C))[m]? = some z := hz
      rw [show (exLeaf.map fun C => V.bl (exIs e C)) = (exLeaf.map (exIs e)).map V.bl by rw [List.map_map]; rfl, List.getElem?_map] at hz
      cases hb : (exLeaf.map (exIs e))[m]? with
      | none => rw [hb] at hz; cases hz
      | some b =>
        rw [hb] at hz
        cases hz
        have hin : b ∈ (exLeaf.map (exIs e)).take (exAt e) := List.mem_of_getElem? (by rw [List.getElem?_take_of_lt hm]; exact hb)
        have := List.all_eq_true.mp hmiss b hin
        cases b
        · rfl
        · cases this
    tm_at "wp"
    refine w_ited (fun z => ?_) (fun z => ?_)
    · tm_at "wk"
      rename_i qn Gn sn hqn
      refine w_neF (SqL.of (sn _ _ hB)) (SqL.of hqn) (by rw [b1, b2, b3, decide_eq_true z, Bool.true_and]) rfl ?_
      tm_at "wk"
      refine w_neF (SqL.of (sn _ _ hqo)) (SqL.of (sn _ _ hB)) rfl rfl ?_
      tm_at "wk"
      refine w_addS (by decide +kernel) ?_
      rw [show (Str.ofString "capacity name times counts summary order plan text size number slots index action line" ++ Str.ofString " notsummary differ busy undo names actions" : Str) = exWords by decide +kernel]
      tm_at "wk"
      refine ⟨_, _, rfl, rfl, by decide +kernel, by decide +kernel, ?_⟩
      intro qw hqw
      tm_at "wp"
      refine w_ixL (v := .str e.2.2) (SqL.of upd_same) (atI_nat (by rw [List.getElem?_map, ex_word e he]; rfl)) ?_
      exact k _ (by tm_at "same")
    · tm_at "wk"
      rename_i qn Gn sn hqn
      refine w_neF (SqL.of (sn _ _ hB)) (SqL.of hqn) (by rw [b1, b2, b3, decide_eq_false z, Bool.false_and]) rfl ?_
      tm_at "wk"
      refine w_neF (SqL.of (sn _ _ hqo)) (SqL.of (sn _ _ hB)) rfl rfl ?_
      tm_at "wk"
      refine w_addS (by decide +kernel) ?_
      rw [show (Str.ofString "capacity name times counts summary order plan text size number slots index action line" ++ Str.ofString " notsummary differ busy undo names actions" : Str) = exWords by decide +kernel]
      tm_at "wk"
      refine ⟨_, _, rfl, rfl, by decide +kernel, by decide +kernel, ?_⟩
      intro qw hqw
      tm_at "wp"
      refine w_ixL (v := .str e.2.2) (SqL.of upd_same) (atI_nat (by rw [List.getElem?_map, ex_word e he]; rfl)) ?_
      exact k _ (by tm_at "same")
theorem ok__law_fields {P : Program} {w : World} {K : PySem.W.Frag} {mg : Str → Option Value} {base : Heap} (fr : Fre mg) (xE : ExF K mg) (D : Dfd K mg "_law_fields" s__law_fields)
    (h__law_other_fields : HasP P w K mg base 1 "_law_other_fields" s__law_other_fields ["_law_e"] (sp__law_other_fields K)) : HasP P w K mg base 2 "_law_fields" s__law_fields ["_law_e"] (sp__law_fields K) := by
  refine D.hasP sc__law_fields (fun p vs H Q E h => ?_) (fun cdv A outer s H vs Q E p hr hg h => ?_)
  · obtain ⟨e, y, dd, rfl, _⟩ := h; rfl
  · obtain ⟨e, y, dd, rfl, he, hh, k⟩ := h
    have nd := sc__law_fields.nd
    have held : ∀ {X : Cx}, p ∈ X.pn → Held X p (He.ga K e.1) dd := fun hp => ⟨hp, hh.1, hh.2.1⟩
    refine ⟨_, (pss_cons (ps_if (pt_val (pe_callB (k_isPT K (xE.ec e he) (held List.mem_cons_self)) rfl fr.isinstance_ (by decide +kernel) (pa_cons (pv 0) (pa_cons (pe_tup (pa_cons (pe_glob (v := .ref (He.ga K "InvalidCounts")) rfl (xE.glo "InvalidCounts" (by decide +kernel)) rfl) (pa_cons (pe_glob (v := .ref (He.ga K "InvalidSummary")) rfl (xE.glo "InvalidSummary" (by decide +kernel)) rfl) (pa_cons (pe_glob (v := .ref (He.ga K "InvalidOrder")) rfl (xE.glo "InvalidOrder" (by decide +kernel)) rfl) (pa_cons (pe_glob (v := .ref (He.ga K "InvalidPlan")) rfl (xE.glo "InvalidPlan" (by decide +kernel)) rfl) pa_nil))))) pa_nil)))) (pss_one (ps_ret (pe_lst (pa_cons (k_xp K (TP.ExcC.xfo (xE.ec e he)) (xE.na e he "index" (by decide +kernel)) (held List.mem_cons_self) (pv 0)) pa_nil)))) pss_nil)
      (pss_cons (ps_if (pt_val (pe_callB (k_isPT K (xE.ec e he) (held List.mem_cons_self)) rfl fr.isinstance_ (by decide +kernel) (pa_cons (pv 0) (pa_cons (pe_tup (pa_cons (pe_glob (v := .ref (He.ga K "InvalidIndex")) rfl (xE.glo "InvalidIndex" (by decide +kernel)) rfl) (pa_cons (pe_glob (v := .ref (He.ga K "InvalidAction")) rfl (xE.glo "InvalidAction" (by decide +kernel)) rfl) pa_nil))) pa_nil)))) (pss_one (ps_ret (pe_lst (pa_cons (k_xp K (TP.ExcC.xfo (xE.ec e he)) (xE.na e he "index" (by decide +kernel)) (held List.mem_cons_self) (pv 0)) pa_nil)))) pss_nil)
      (pss_cons (ps_if (pt_val (pe_callB (k_isP K (xE.ec e he) (held List.mem_cons_self)) rfl fr.isinstance_ (by decide +kernel) (pa_cons (pv 0) (pa_cons (pe_glob (v := .ref (He.ga K "NotASummary")) rfl (xE.glo "NotASummary" (by decide +kernel)) rfl) pa_nil)))) (pss_one (ps_ret (pe_lst (pa_cons (k_xp K (TP.ExcC.xfo (xE.ec e he)) (xE.na e he "value" (by decide +kernel)) (held List.mem_cons_self) (pv 0)) pa_nil)))) pss_nil)
      (pss_cons (ps_if (pt_val (pe_callB (k_isPT K (xE.ec e he) (held List.mem_cons_self)) rfl fr.isinstance_ (by decide +kernel) (pa_cons (pv 0) (pa_cons (pe_tup (pa_cons (pe_glob (v := .ref (He.ga K "InvalidCapacity")) rfl (xE.glo "InvalidCapacity" (by decide +kernel)) rfl) (pa_cons (pe_glob (v := .ref (He.ga K "CapacitiesDiffer")) rfl (xE.glo "CapacitiesDiffer" (by decide +kernel)) rfl) pa_nil))) pa_nil)))) (pss_one (ps_ret (pe_lst (pa_cons (k_xp K (TP.ExcC.xfo (xE.ec e he)) (xE.na e he "capacity" (by decide +kernel)) (held List.mem_cons_self) (pv 0)) pa_nil)))) pss_nil)
      (pss_cons (ps_if (pt_val (pe_callB (k_isPT K (xE.ec e he) (held List.mem_cons_self)) rfl fr.isinstance_ (by decide +kernel) (pa_cons (pv 0) (pa_cons (pe_tup (pa_cons (pe_glob (v := .ref (He.ga K "TooManyNames")) rfl (xE.glo "TooManyNames" (by decide +kernel)) rfl) (pa_cons (pe_glob (v := .ref (He.ga K "TooManyActions")) rfl (xE.glo "TooManyActions" (by decide +kernel)) rfl) pa_nil))) pa_nil)))) (pss_one (ps_ret (pe_lst (pa_cons (k_xp K (TP.ExcC.xfo (xE.ec e he)) (xE.na e he "found" (by decide +kernel)) (held List.mem_cons_self) (pv 0)) pa_nil)))) pss_nil)
      (pss_one (ps_ret (pe_fnP (p := p) h__law_other_fields pb__law_other_fields List.mem_cons_self (L2H.RoomH.mono hr (by decide)) hg rfl (pa_cons (pv 0) pa_nil))))))))), ?_⟩
    try dsimp only [L2H.cxH, cxOf]
    have fin : ∀ (f : Str), e.2.1 = f → ([(e.2.1, y)] : List (Str × V)).lookup f = some y := fun f h => by rw [h]; exact lk_self _ _
    tm_at "wp"
    rename_i t1 ht1
    have hh1 := held_same (same_new (u := .tup [.ref (He.ga K "InvalidCounts"), .ref (He.ga K "InvalidSummary"), .ref (He.ga K "InvalidOrder"), .ref (He.ga K "InvalidPlan")]) ht1) hh
    refine w_isPT xE he hh1 (cs := ["InvalidCounts", "InvalidSummary", "InvalidOrder", "InvalidPlan"]) upd_same (by decide +kernel) ?_
    tm_at "wp"
    refine w_iteb (fun hb => ?_) (fun h1 => ?_)
    · tm_at "wp"
      obtain ⟨d9, rfl, hd9⟩ := hh1.some (ex_first e he hb) (by decide +kernel)
      refine w_xp (w_var (by with_unfolding_all exact rfl) ⟨rfl, d9, _, y, rfl, hd9, fin "index" (ex_first e he hb), ?_⟩)
      tm_at "wp"
      rename_i l hl
      exact k l _ (by tm_at "same") upd_same
    tm_at "wp"
    rename_i t2 ht2
    have hh2 := held_same (same_new (u := .tup [.ref (He.ga K "InvalidIndex"), .ref (He.ga K "InvalidAction")]) ht2) hh1
    refine w_isPT xE he hh2 (cs := ["InvalidIndex", "InvalidAction"]) upd_same (by decide +kernel) ?_
    tm_at "wp"
    refine w_iteb (fun hb => ?_) (fun h2 => ?_)
    · tm_at "wp"
      obtain ⟨d9, rfl, hd9⟩ := hh2.some (ex_second e he hb) (by decide +kernel)
      refine w_xp (w_var (by with_unfolding_all exact rfl) ⟨rfl, d9, _, y, rfl, hd9, fin "index" (ex_second e he hb), ?_⟩)
      tm_at "wp"
      rename_i l hl
      exact k l _ (by tm_at "same") upd_same
    tm_at "wp"
    refine w_isP xE he hh2 (by decide +kernel) ?_
    tm_at "wp"
    refine w_iteb (fun hb => ?_) (fun h3 => ?_)
    · tm_at "wp"
      obtain ⟨d9, rfl, hd9⟩ := hh2.some (ex_fld e he ("NotASummary", "value", "notsummary") (by decide +kernel) hb) (by decide +kernel)
      refine w_xp (w_var (by with_unfolding_all exact rfl) ⟨rfl, d9, _, y, rfl, hd9, fin "value" (ex_fld e he ("NotASummary", "value", "notsummary") (by decide +kernel) hb), ?_⟩)
      tm_at "wp"
      rename_i l hl
      exact k l _ (by tm_at "same") upd_same
    tm_at "wp"
    rename_i t4 ht4
    have hh4 := held_same (same_new (u := .tup [.ref (He.ga K "InvalidCapacity"), .ref (He.ga K "CapacitiesDiffer")]) ht4) hh2
    refine w_isPT xE he hh4 (cs := ["InvalidCapacity", "CapacitiesDiffer"]) upd_same (by decide +kernel) ?_
    tm_at "wp"
    refine w_iteb (fun hb => ?_) (fun h4 => ?_)
    · tm_at "wp"
      obtain ⟨d9, rfl, hd9⟩ := hh4.some (ex_cap e he hb) (by decide +kernel)
      refine w_xp (w_var (by with_unfolding_all exact rfl) ⟨rfl, d9, _, y, rfl, hd9, fin "capacity" (ex_cap e he hb), ?_⟩)
      tm_at "wp"
      rename_i l hl
      exact k l _ (by tm_at "same") upd_same
    tm_at "wp"
    rename_i t5 ht5
    have hh5 := held_same (same_new (u := .tup [.ref (He.ga K "TooManyNames"), .ref (He.ga K "TooManyActions")]) ht5) hh4
    refine w_isPT xE he hh5 (cs := ["TooManyNames", "TooManyActions"]) upd_same (by decide +kernel) ?_
    tm_at "wp"
    refine w_iteb (fun hb => ?_) (fun h5 => ?_)
    · tm_at "wp"
      obtain ⟨d9, rfl, hd9⟩ := hh5.some (ex_many e he hb) (by decide +kernel)
      refine w_xp (w_var (by with_unfolding_all exact rfl) ⟨rfl, d9, _, y, rfl, hd9, fin "found" (ex_many e he hb), ?_⟩)
      tm_at "wp"
      rename_i l hl
      exact k l _ (by tm_at "same") upd_same
    tm_at "wp"
    refine ⟨e, y, dd, rfl, he, hh5, ex_rest e he h1 h2 h3 h4 h5, fun l H' s hl => ?_⟩
    exact k l _ (by tm_at "same") hl
theorem ok__law_other_fields {P : Program} {w : World} {K : PySem.W.Frag} {mg : Str → Option Value} {base : Heap} (fr : Fre mg) (xE : ExF K mg) (D : Dfd K mg "_law_other_fields" s__law_other_fields) : HasP P w K mg base 1 "_law_other_fields" s__law_other_fields ["_law_e"] (sp__law_other_fields K) := by
  refine D.hasP sc__law_other_fields (fun p vs H Q E h => ?_) (fun cdv A outer s H vs Q E p hr hg h => ?_)
  · obtain ⟨e, y, dd, rfl, _⟩ := h; rfl
  · obtain ⟨e, y, dd, rfl, he, hh, k⟩ := h
    have nd := sc__law_other_fields.nd
    have held : ∀ {X : Cx}, p ∈ X.pn → Held X p (He.ga K e.1) dd := fun hp => ⟨hp, hh.1, hh.2.1⟩
    refine ⟨_, (pss_cons (ps_if (pt_val (pe_callB (k_isP K (xE.ec e he) (held List.mem_cons_self)) rfl fr.isinstance_ (by decide +kernel) (pa_cons (pv 0) (pa_cons (pe_glob (v := .ref (He.ga K "InvalidName")) rfl (xE.glo "InvalidName" (by decide +kernel)) rfl) pa_nil)))) (pss_one (ps_ret (pe_lst (pa_cons (k_xp K (TP.ExcC.xfo (xE.ec e he)) (xE.na e he "name" (by decide +kernel)) (held List.mem_cons_self) (pv 0)) pa_nil)))) pss_nil)
      (pss_cons (ps_if (pt_val (pe_callB (k_isP K (xE.ec e he) (held List.mem_cons_self)) rfl fr.isinstance_ (by decide +kernel) (pa_cons (pv 0) (pa_cons (pe_glob (v := .ref (He.ga K "InvalidTimes")) rfl (xE.glo "InvalidTimes" (by decide +kernel)) rfl) pa_nil)))) (pss_one (ps_ret (pe_lst (pa_cons (k_xp K (TP.ExcC.xfo (xE.ec e he)) (xE.na e he "times" (by decide +kernel)) (held List.mem_cons_self) (pv 0)) pa_nil)))) pss_nil)
      (pss_cons (ps_if (pt_val (pe_callB (k_isP K (xE.ec e he) (held List.mem_cons_self)) rfl fr.isinstance_ (by decide +kernel) (pa_cons (pv 0) (pa_cons (pe_glob (v := .ref (He.ga K "InvalidText")) rfl (xE.glo "InvalidText" (by decide +kernel)) rfl) pa_nil)))) (pss_one (ps_ret (pe_lst (pa_cons (k_xp K (TP.ExcC.xfo (xE.ec e he)) (xE.na e he "text" (by decide +kernel)) (held List.mem_cons_self) (pv 0)) pa_nil)))) pss_nil)
      (pss_cons (ps_if (pt_val (pe_callB (k_isP K (xE.ec e he) (held List.mem_cons_self)) rfl fr.isinstance_ (by decide +kernel) (pa_cons (pv 0) (pa_cons (pe_glob (v := .ref (He.ga K "InvalidNumber")) rfl (xE.glo "InvalidNumber" (by decide +kernel)) rfl) pa_nil)))) (pss_one (ps_ret (pe_lst (pa_cons (k_xp K (TP.ExcC.xfo (xE.ec e he)) (xE.na e he "number" (by decide +kernel)) (held List.mem_cons_self) (pv 0)) pa_nil)))) pss_nil)
      (pss_cons (ps_if (pt_val (pe_callB (k_isP K (xE.ec e he) (held List.mem_cons_self)) rfl fr.isinstance_ (by decide +kernel) (pa_cons (pv 0) (pa_cons (pe_glob (v := .ref (He.ga K "InvalidSlots")) rfl (xE.glo "InvalidSlots" (by decide +kernel)) rfl) pa_nil)))) (pss_one (ps_ret (pe_lst (pa_cons (k_xp K (TP.ExcC.xfo (xE.ec e he)) (xE.na e he "slots" (by decide +kernel)) (held List.mem_cons_self) (pv 0)) pa_nil)))) pss_nil)
      (pss_cons (ps_if (pt_val (pe_callB (k_isP K (xE.ec e he) (held List.mem_cons_self)) rfl fr.isinstance_ (by decide +kernel) (pa_cons (pv 0) (pa_cons (pe_glob (v := .ref (He.ga K "InvalidSize")) rfl (xE.glo "InvalidSize" (by decide +kernel)) rfl) pa_nil)))) (pss_one (ps_ret (pe_lst (pa_cons (k_xp K (TP.ExcC.xfo (xE.ec e he)) (xE.na e he "size" (by decide +kernel)) (held List.mem_cons_self) (pv 0)) pa_nil)))) pss_nil)
      (pss_one (ps_ret (pe_ifExp (pt_val (pe_callB (k_isP K (xE.ec e he) (held List.mem_cons_self)) rfl fr.isinstance_ (by decide +kernel) (pa_cons (pv 0) (pa_cons (pe_glob (v := .ref (He.ga K "InvalidLine")) rfl (xE.glo "InvalidLine" (by decide +kernel)) rfl) pa_nil)))) (pe_lst (pa_cons (k_xp K (TP.ExcC.xfo (xE.ec e he)) (xE.na e he "line" (by decide +kernel)) (held List.mem_cons_self) (pv 0)) pa_nil)) (pe_lst pa_nil)))))))))), ?_⟩
    try dsimp only [L2H.cxH, cxOf]
    obtain ⟨ho, k⟩ := k
    have fin : ∀ (c : ExE), c ∈ exTabA → exIs e c.1 = true → ([(e.2.1, y)] : List (Str × V)).lookup c.2.1 = some y := fun c hc hb => by rw [ex_fld e he c hc hb]; exact lk_self _ _
    tm_at "wp"
    refine w_isP xE he hh (by decide +kernel) ?_
    tm_at "wp"
    refine w_iteb (fun hb => ?_) (fun h1 => ?_)
    · tm_at "wp"
      obtain ⟨d9, rfl, hd9⟩ := hh.some (ex_fld e he ("InvalidName", "name", "name") (by decide +kernel) hb) (by decide +kernel)
      refine w_xp (w_var (by with_unfolding_all exact rfl) ⟨rfl, d9, _, y, rfl, hd9, fin ("InvalidName", "name", "name") (by decide +kernel) hb, ?_⟩)
      tm_at "wp"
      rename_i l hl
      exact k l _ (same_new hl) upd_same
    tm_at "wp"
    refine w_isP xE he hh (by decide +kernel) ?_
    tm_at "wp"
    refine w_iteb (fun hb => ?_) (fun h2 => ?_)
    · tm_at "wp"
      obtain ⟨d9, rfl, hd9⟩ := hh.some (ex_fld e he ("InvalidTimes", "times", "times") (by decide +kernel) hb) (by decide +kernel)
      refine w_xp (w_var (by with_unfolding_all exact rfl) ⟨rfl, d9, _, y, rfl, hd9, fin ("InvalidTimes", "times", "times") (by decide +kernel) hb, ?_⟩)
      tm_at "wp"
      rename_i l hl
      exact k l _ (same_new hl) upd_same
    tm_at "wp"
    refine w_isP xE he hh (by decide +kernel) ?_
    tm_at "wp"
    refine w_iteb (fun hb => ?_) (fun h3 => ?_)
    · tm_at "wp"
      obtain ⟨d9, rfl, hd9⟩ := hh.some (ex_fld e he ("InvalidText", "text", "text") (by decide +kernel) hb) (by decide +kernel)
      refine w_xp (w_var (by with_unfolding_all exact rfl) ⟨rfl, d9, _, y, rfl, hd9, fin ("InvalidText", "text", "text") (by decide +kernel) hb, ?_⟩)
      tm_at "wp"
      rename_i l hl
      exact k l _ (same_new hl) upd_same
    tm_at "wp"
    refine w_isP xE he hh (by decide +kernel) ?_
    tm_at "wp"
    refine w_iteb (fun hb => ?_) (fun h4 => ?_)
    · tm_at "wp"
      obtain ⟨d9, rfl, hd9⟩ := hh.some (ex_fld e he ("InvalidNumber", "number", "number") (by decide +kernel) hb) (by decide +kernel)
      refine w_xp (w_var (by with_unfolding_all exact rfl) ⟨rfl, d9, _, y, rfl, hd9, fin ("InvalidNumber", "number", "number") (by decide +kernel) hb, ?_⟩)
      tm_at "wp"
      rename_i l hl
      exact k l _ (same_new hl) upd_same
    tm_at "wp"
    refine w_isP xE he hh (by decide +kernel) ?_
    tm_at "wp"
    refine w_iteb (fun hb => ?_) (fun h5 => ?_)
    · tm_at "wp"
      obtain ⟨d9, rfl, hd9⟩ := hh.some (ex_fld e he ("InvalidSlots", "slots", "slots") (by decide +kernel) hb) (by decide +kernel)
      refine w_xp (w_var (by with_unfolding_all exact rfl) ⟨rfl, d9, _, y, rfl, hd9, fin ("InvalidSlots", "slots", "slots") (by decide +kernel) hb, ?_⟩)
      tm_at "wp"
      rename_i l hl
      exact k l _ (same_new hl) upd_same
    tm_at "wp"
    refine w_isP xE he hh (by decide +kernel) ?_
    tm_at "wp"
    refine w_iteb (fun hb => ?_) (fun h6 => ?_)
    · tm_at "wp"
      obtain ⟨d9, rfl, hd9⟩ := hh.some (ex_fld e he ("InvalidSize", "size", "size") (by decide +kernel) hb) (by decide +kernel)
      refine w_xp (w_var (by with_unfolding_all exact rfl) ⟨rfl, d9, _, y, rfl, hd9, fin ("InvalidSize", "size", "size") (by decide +kernel) hb, ?_⟩)
      tm_at "wp"
      rename_i l hl
      exact k l _ (same_new hl) upd_same
    tm_at "wp"
    refine w_isP xE he hh (by decide +kernel) ?_
    tm_at "wp"
    rcases ho with ho | ho
    · have hb := ex_oth e he ho h1 h2 h3 h4 h5 h6
      rw [hb]
      refine w_iteT ?_
      tm_at "wp"
      obtain ⟨d9, rfl, hd9⟩ := hh.some (ex_fld e he ("InvalidLine", "line", "line") (by decide +kernel) hb) (by decide +kernel)
      refine w_xp (w_var (by with_unfolding_all exact rfl) ⟨rfl, d9, _, y, rfl, hd9, fin ("InvalidLine", "line", "line") (by decide +kernel) hb, ?_⟩)
      tm_at "wp"
      rename_i l hl
      exact k l _ (same_new hl) upd_same
    · rw [ex_none e he ho]
      refine w_iteF ?_
      tm_at "wp"
      rename_i l hl
      cases dd with
      | none => exact k l _ (same_new hl) upd_same
      | some d => exact absurd ho hh.2.2.1
theorem ok__law_numbers {P : Program} {w : World} {K : PySem.W.Frag} {mg : Str → Option Value} {base : Heap} (fr : Fre mg) (D : Dfd K mg "_law_numbers" s__law_numbers) : Has P w K mg base CX0 1 "_law_numbers" s__law_numbers ["_law_blob_here"] (sp__law_numbers K) := by
  refine D.has sc__law_numbers (fun vs H Q E h => ?_) (fun cdv A outer s H vs Q E hr hg h => ?_)
  · obtain ⟨ks, rfl, _⟩ := h; rfl
  · obtain ⟨ks, rfl, h8, hl, k⟩ := h
    have nd := sc__law_numbers.nd
    refine ⟨_, PSs.nox (pss_one (ps_ret (pe_callTy (call_listBy rfl) rfl fr.list_ (by decide +kernel) (pa_cons (pv 0) pa_nil)))), ?_⟩
    try dsimp only [cxOf]
    tm_at "wp"
    exact ⟨ks, rfl, h8, hl, k⟩
theorem ok__law_pieces {P : Program} {w : World} {K : PySem.W.Frag} {mg : Str → Option Value} {base : Heap} (fr : Fre mg) (cl_Summary : ClsF K mg "Summary" ["capacity", "counts", "__bool__"]) (et_Summary___init___0 : ∀ H : Hp, SqT K H (dflA "Summary" "__init__" 0 K) []) (D : Dfd K mg "_law_pieces" s__law_pieces)
    (h_pack_summary : Has P w K mg base (L2.CX P w) 5 "pack_summary" s_pack_summary ["summary"] (sp_pack_summary K))
    (h_Summary___init__ : HasM P w K mg base (L2.CX P w) 5 "Summary" "__init__" "Summary.__init__" s_Summary___init__ [.ref (dflA "Summary" "__init__" 0 K)] ["self", "capacity", "counts"] (sp_Summary___init__ K)) : Has P w K mg base CX0 7 "_law_pieces" s__law_pieces [] (sp__law_pieces K) := by
  refine D.has sc__law_pieces (fun vs H Q E h => ?_) (fun cdv A outer s H vs Q E hr hg h => ?_)
  · obtain ⟨rfl, _⟩ := h; rfl
  · obtain ⟨rfl, k⟩ := h
    have nd := sc__law_pieces.nd
    refine ⟨_, PSs.nox (pss_cons (ps_set (i := 0) nd rfl (Or.inl rfl) (pe_slice sl_by (pe_fn h_pack_summary pb_pack_summary (hr.mono (by decide)) hg rfl (passE (E := fun _ _ _ => False) L2.takes0) (pa_cons (pe_mk cl_Summary h_Summary___init__ bj_Summary___init___3 (hr.mono (by decide)) hg rfl (passE (E := fun _ _ _ => False) L2.takes0) (pa_cons pe_int (pa_cons (pe_tup (pa_cons (pe_tup (pa_cons pe_str (pa_cons pe_int pa_nil))) pa_nil)) pa_nil))) pa_nil)) (po_some (pe_un un_neg pe_int)) po_none))
      (pss_one (ps_ret (pe_op op_cat (pe_lst (pa_cons (pv 0) pa_nil)) (pe_lc (own := [("_law_many", 1)]) (g := gName 1) (tt := tYes) rfl nd (pi_range2 rfl fr.range_ (pa_cons pe_int (pa_cons pe_int pa_nil))) (blkOk_by (own := [("_law_many", 1)]) (N := N__law_pieces) (sc := defScope s__law_pieces) (by decide +kernel)) (fun _ _ _ _ _ => (pg_name (i := 1) nd rfl (Or.inl rfl))) (fun _ _ _ _ _ => pts_nil) (fun _ _ _ _ _ => (pe_slice sl_by (pe_fn h_pack_summary pb_pack_summary (hr.mono (by decide)) hg rfl (passE (E := fun _ _ _ => False) L2.takes0) (pa_cons (kx_mk K cl_Summary h_Summary___init__ bj_Summary___init___3 (hr.mono (by decide)) hg rfl (passE (E := fun _ _ _ => False) L2.takes0) (pa_cons pe_int (pa_cons (pe_tup (pa_cons (pe_tup (pa_cons pe_str (pa_cons (pv 1) pa_nil))) pa_nil)) pa_nil))) pa_nil)) (po_some (pe_un un_neg pe_int)) po_none))))))), ?_⟩
    try dsimp only [cxOf]
    tm_at "wp"
    have dpc : ∀ (n : Int) (G : Hp) (p0 p1 : Addr), (upd G p0 (HO.tup [V.str "a", .int n])) p1 = none → Dp K (upd (upd G p0 (HO.tup [V.str "a", .int n])) p1 (HO.tup [V.ref p0])) (.ref p1) (bagD [(("a" : Str), n)]) := fun n G p0 p1 hp1 => .tup (SqT.of upd_same) (.cons (pair_mk (SqT.of (hp_new upd_same hp1))) .nil)
    rename_i p0 hp0 p1 hp1
    refine w_mkSumV (fun _ => rfl) (dpc _ _ _ _ hp1) (one_ok (by decide)) fun v H1 s1 ho => ?_
    tm_at "wp"
    refine ⟨v, rfl, .inl ⟨1, _, ho, one_ok (by decide), one_b2 (by decide), fun H2 s2 => ?_⟩⟩
    tm_at "wp"
    refine w_slBy (piece_len (by decide) (by decide)) ?_
    rw [piece_0]
    tm_at "wp"
    rename_i L hL
    have s03 := ((same_new hp0 (u := HO.tup [V.str "a", .int 256])).trans (same_new hp1 (u := HO.tup [V.ref p0]))).trans (s1.trans (s2.trans (same_new hL (u := HO.lst [V.byt (byteArr [0])]))))
    have hL3 := @upd_same H2 L (HO.lst [V.byt (byteArr [0])])
    generalize upd H2 L (HO.lst [V.byt (byteArr [0])]) = H3 at *
    clear s1 s2 ho hp0 hp1 hL dpc
    refine w_onR2 ⟨by decide, by decide, by decide, by decide⟩ ?_
    intro D hD
    refine lc_map walk_range (by decide) (fun i y => y = .byt (byteArr [1 + ((i : Nat) : Int)])) hD (fun _ _ => trivial) ?_ ?_ mono_gname
    · rintro i y G1 G2 hi sg ⟨rfl, rfl⟩ Qy hq
      have hi : i < 255 := hi
      refine w_gname ⟨rfl, ?_⟩
      tm_at "wp"
      rename_i p0 hp0 p1 hp1
      refine w_mkSumV (fun _ => rfl) (.tup (SqT.of upd_same) (.cons (pair_mk (SqT.of (hp_new upd_same hp1))) .nil) : Dp K _ _ (bagD [(("a" : Str), 1 + ((i : Nat) : Int))])) (one_ok (by omega)) fun v H1 s1 ho => ?_
      tm_at "wp"
      refine ⟨v, rfl, .inl ⟨1, _, ho, one_ok (by omega), one_b2 (by omega), fun H2 s2 => ?_⟩⟩
      tm_at "wp"
      refine w_slBy (piece_len (by omega) (by omega)) ?_
      rw [piece_at i hi]
      exact hq _ _ (((same_new hp0).trans (same_new hp1)).trans (s1.trans s2)) rfl
    intro acc H4 s4 _ hacc hla hf
    have eacc : acc = (List.range 255).map fun i => V.byt (byteArr [1 + ((i : Nat) : Int)]) := acc_map (by rw [hla, List.length_range]; rfl) fun i y e => by
      obtain ⟨h3, _⟩ := List.getElem?_eq_some_iff.mp e
      exact ⟨i, List.getElem?_range (by rw [hla] at h3; exact h3), hf i y e⟩
    rw [eacc] at hacc
    tm_at "wp"
    refine ⟨L, D, _, _, rfl, rfl, s4 _ _ hL3, hacc, by rw [List.length_map, List.length_range, sizeLine_eq]; decide, fun p hp => ?_⟩
    refine k p _ (s03.trans (s4.trans (same_new hp))) ?_
    rw [upd_same, show (256 : Nat) = 255 + 1 from rfl, List.range_succ_eq_map, List.map_cons, List.map_map]
    congr 3
theorem ok__law_blob {P : Program} {w : World} {K : PySem.W.Frag} {mg : Str → Option Value} {base : Heap} (fr : Fre mg) (D : Dfd K mg "_law_blob" s__law_blob) : Has P w K mg base CX0 1 "_law_blob" s__law_blob ["_law_pieces_here", "_law_numbers_here"] (sp__law_blob K) := by
  refine D.has sc__law_blob (fun vs H Q E h => ?_) (fun cdv A outer s H vs Q E hr hg h => ?_)
  · obtain ⟨p, a, ns, rfl, _⟩ := h; rfl
  · obtain ⟨p, a, ns, rfl, hp, hs, h8, hl, k⟩ := h
    have nd := sc__law_blob.nd
    refine ⟨_, PSs.nox (pss_cons (ps_set (i := 2) nd rfl (Or.inl rfl) (pe_slice sl_by (pe_ix (k_ixL K) (pv 0) pe_int (fun _ _ => rfl)) po_none (po_some pe_int)))
      (pss_cons (ps_for PassesOwn.never rfl (k_iList K (pv 1)) (pg_name (i := 3) nd rfl (Or.inl rfl))
        (pss_one (ps_set (i := 2) nd rfl (Or.inl rfl) (pe_op o_addBy (pv 2) (pe_ix (k_ixL K) (pv 0) (pv 3) (fun _ _ => rfl))))))
      (pss_one (ps_ret (pv 2))))), ?_⟩
    try dsimp only [cxOf]
    tm_at "wp"
    have hpc : ∀ i, i < 256 → ((List.range 256).map fun i => V.byt (byteArr [((i : Nat) : Int)]))[i]? = some (V.byt (byteArr [((i : Nat) : Int)])) := fun i hi => by
      rw [List.getElem?_map, List.getElem?_range hi]; rfl
    refine w_ixL hp (v := .byt (byteArr [((0 : Nat) : Int)])) (at_of' (j := 0) (by omega) (hpc 0 (by omega))) ?_
    tm_at "wp"
    refine w_slBy (by decide) ?_
    have e0 : cutL [((0 : Nat) : Int)] none (some 0) = ns.take 0 := by rw [List.take_zero]; decide
    rw [e0]
    tm_at "wp"
    refine w_onL hs ?_
    refine for_go (walk_list (xs := ns.map V.int)) (fun i σ H' => ∃ u3, σ = [some (.ref p), some (.ref a), some (.byt (byteArr (ns.take i))), u3] ∧ H' = H) ⟨none, rfl, rfl⟩ (fun i σ H' _ ⟨_, _, e⟩ => by subst e; exact hs) ?_ ?_
    rotate_left
    · rintro σ H' ⟨u3, rfl, rfl⟩
      rw [List.length_map, List.take_length]
      tm_at "wp"
      exact k
    rintro i y σ H1 H2 hi ⟨u3, rfl, rfl⟩ ⟨rfl, hy⟩
    rw [List.getElem?_map] at hy
    obtain ⟨n, hn, rfl⟩ := Option.map_eq_some_iff.mp hy
    have hn8 := h8 n (List.mem_of_getElem? hn)
    have en : n = ((n.toNat : Nat) : Int) := by omega
    refine w_gname ?_
    tm_at "wp"
    refine w_ixL hp (v := .byt (byteArr [n])) (at_of' (j := n.toNat) en (by rw [hpc n.toNat (by omega), ← en])) ?_
    tm_at "wp"
    refine w_addBy (by rw [List.length_take]; show _ + 1 ≤ _; omega) ?_
    tm_at "wp"
    exact ⟨some (.int n), by rw [take_succ_snoc hn]; rfl, rfl⟩
theorem ok__law_due {P : Program} {w : World} {K : PySem.W.Frag} {mg : Str → Option Value} {base : Heap} (fr : Fre mg) (D : Dfd K mg "_law_due" s__law_due) : Has P w K mg base CX0 1 "_law_due" s__law_due ["_law_numbers_here"] (sp__law_due K) := by
  refine D.has sc__law_due (fun vs H Q E h => ?_) (fun cdv A outer s H vs Q E hr hg h => ?_)
  · obtain ⟨a, ns, rfl, _⟩ := h; rfl
  · obtain ⟨a, ns, rfl, hs, h8, hl, kN, k⟩ := h
    have nd := sc__law_due.nd
    refine ⟨_, PSs.nox (pss_cons (ps_if (PW.pt (pw_or (pt_cmpR op_lt (pe_callB (k_len K) rfl fr.len_ (by decide +kernel) (pa_cons (pv 0) pa_nil)) pe_int (nomark _)) (pw_or (pt_not (pt_chain op_le op_le pe_int (pe_ix (k_ixL K) (pv 0) pe_int (fun _ _ => rfl)) pe_int)) (pw_or1 (pt_cmpR op_gt (pe_ix (k_ixL K) (pv 0) pe_int (fun _ _ => rfl)) (pe_ix (k_ixL K) (pv 0) pe_int (fun _ _ => rfl)) (nomark _)))))) (pss_one (ps_ret pe_non)) pss_nil)
      (pss_cons (ps_par (i := 1) (j := 2) rfl nd rfl rfl (by decide) rfl rfl (pa_cons (pe_lst pa_nil) (pa_cons pe_int pa_nil)) rfl)
      (pss_cons (ps_for PassesOwn.never rfl (pi_range1 rfl fr.range_ (pa_cons (pe_ix (k_ixL K) (pv 0) pe_int (fun _ _ => rfl)) pa_nil)) (pg_name (i := 3) nd rfl (Or.inl rfl))
        (pss_cons (ps_set (i := 4) nd rfl (Or.inl rfl) (pe_ix (k_ixL K) (pe_op op_cat (pe_slice (k_slL K) (pv 0) (po_some (pv 2)) (po_some (pe_op op_add (pv 2) pe_int))) (pe_lst (pa_cons pe_int pa_nil))) pe_int (fun _ _ => rfl)))
      (pss_cons (ps_set (i := 5) nd rfl (Or.inl rfl) (pe_slice (k_slL K) (pv 0) (po_some (pe_op op_add (pv 2) pe_int)) (po_some (pe_op op_add (pe_op op_add (pv 2) pe_int) (pv 4)))))
      (pss_cons (ps_set (i := 6) nd rfl (Or.inl rfl) (pe_ix (k_ixL K) (pe_op op_cat (pe_slice (k_slL K) (pv 0) (po_some (pe_op op_add (pe_op op_add (pv 2) pe_int) (pv 4))) (po_some (pe_op op_add (pe_op op_add (pv 2) pe_int) (pv 4)))) (pe_lst (pa_cons pe_int pa_nil))) pe_int (fun _ _ => rfl)))
      (pss_cons (ps_set (i := 7) nd rfl (Or.inl rfl) (pe_slice (k_slL K) (pv 0) (po_some (pe_op op_add (pe_op op_add (pv 2) pe_int) (pv 4))) (po_some (pe_op op_add (pe_op op_add (pe_op op_add (pv 2) pe_int) (pv 4)) (pv 6)))))
      (pss_cons (ps_set (i := 2) nd rfl (Or.inl rfl) (pe_op op_add (pe_op op_add (pe_op op_add (pv 2) pe_int) (pv 4)) (pv 6)))
      (pss_cons (ps_if (PW.pt (pw_or (pt_not (pt_chain op_lt op_lt pe_int (pv 4) pe_int)) (pw_or (pt_cmpR op_eq (pv 6) pe_int (nomark _)) (pw_or (pt_cmpR op_lt (pe_callB (k_len K) rfl fr.len_ (by decide +kernel) (pa_cons (pv 5) pa_nil)) (pv 4) (nomark _)) (pw_or (pt_cmpR op_lt (pe_callB (k_len K) rfl fr.len_ (by decide +kernel) (pa_cons (pv 7) pa_nil)) (pv 6) (nomark _)) (pw_or1 (pt_cmpR op_eq (pe_ix (k_ixL K) (pv 7) pe_int (fun _ _ => rfl)) pe_int (nomark _)))))))) (pss_one (ps_ret pe_non)) pss_nil)
      (pss_cons (ps_if (PW.pt (pw_or (pt_cmpR op_lt (pe_callB (k_min K rfl) rfl fr.min_ (by decide +kernel) (pa_cons (pv 5) pa_nil)) pe_int (nomark _)) (pw_or1 (pt_cmpR op_gt (pe_callB (k_max K rfl) rfl fr.max_ (by decide +kernel) (pa_cons (pv 5) pa_nil)) pe_int (nomark _))))) (pss_one (ps_ret pe_non)) pss_nil)
      (pss_cons (ps_par (i := 8) (j := 9) rfl nd rfl rfl (by decide) rfl rfl (pa_cons (k_join K pe_str (pe_lc (own := [("_law_letter", 10)]) (g := gName 10) (tt := tYes) rfl nd (k_iList K (pv 5)) (blkOk_by (own := [("_law_letter", 10)]) (N := N__law_due) (sc := defScope s__law_due) (by decide +kernel)) (fun _ _ _ _ _ => (pg_name (i := 10) nd rfl (Or.inl rfl))) (fun _ _ _ _ _ => pts_nil) (fun _ _ _ _ _ => (pe_ix ix_str pe_str (pe_op op_sub (pv 10) pe_int) (fun _ _ => rfl))))) (pa_cons pe_int pa_nil)) rfl)
      (pss_cons (ps_for PassesOwn.never rfl (k_iList K (pv 7)) (pg_name (i := 11) nd rfl (Or.inl rfl))
        (pss_one (ps_set (i := 9) nd rfl (Or.inl rfl) (pe_op op_add (pe_op op_mul (pv 9) pe_int) (pv 11)))))
      (pss_cons (ps_if (PW.pt (pw_and (pt_cmpR (k_neE K (u66 hr)) (pv 1) (pe_lst pa_nil) (nomark _)) (pw_and1 (pt_cmpR o_leS (pv 8) (pe_ix (k_ixT K) (pe_ix (k_ixL K) (pv 1) (pe_un un_neg pe_int) (fun _ _ => rfl)) pe_int (fun _ _ => rfl)) (nomark _))))) (pss_one (ps_ret pe_non)) pss_nil)
      (pss_one (ps_expr (k_bm K PySem.F.plainAttrs_list PySem.F.slot_list_append PySem.F.type_list_append mt_append (pv 1) (pa_cons (pe_tup (pa_cons (pv 8) (pa_cons (pv 9) pa_nil))) pa_nil)))))))))))))))
      (pss_one (ps_ret (pe_ifExp (pt_cmpR op_eq (pv 2) (pe_callB (k_len K) rfl fr.len_ (by decide +kernel) (pa_cons (pv 0) pa_nil)) (nomark _)) (pe_lst (pa_cons (pe_ix (k_ixL K) (pv 0) pe_int (fun _ _ => rfl)) (pa_cons (pe_callTy (k_tuple K) rfl fr.tuple_ (by decide +kernel) (pa_cons (pv 1) pa_nil)) pa_nil))) pe_non)))))), ?_⟩
    try dsimp only [cxOf]
    have est : ∀ a0 : V, L2.start N__law_due [a0] = [some a0, none, none, none, none, none, none, none, none, none, none, none] := fun _ => rfl
    simp only [est]
    clear est
    tm_at "vp"
    refine w_lenL hs ?_
    rw [List.length_map]
    tm_at "vp"
    by_cases h2 : ((ns.length : Nat) : Int) < 2
    · rw [decide_eq_true h2, if_pos rfl, if_pos rfl]
      tm_at "vp"
      refine kN ?_ _ (Same.refl _)
      rcases ns with _ | ⟨c, _ | ⟨n, r⟩⟩
      · rfl
      · rfl
      · exfalso
        rw [List.length_cons, List.length_cons] at h2
        omega
    rw [decide_eq_false h2, if_neg (by decide)]
    rcases ns with _ | ⟨c, _ | ⟨n, r⟩⟩
    · exact absurd (show ((0 : Nat) : Int) < 2 by decide) h2
    · exact absurd (show ((1 : Nat) : Int) < 2 by decide) h2
    have hn8 := h8 n (List.mem_cons_of_mem _ List.mem_cons_self)
    have hu := due_unpack h8
    have hu : (if 1 ≤ c ∧ c ≤ 8 ∧ n ≤ c then match dueR [] n.toNat r with
        | some (ps, []) => some (c, ps)
        | _ => none else none) = unpackK (c :: n :: r) := hu
    tm_at "vp"
    have at0 : atI ((c :: n :: r).map V.int) 0 = some (.int c) := at_of' (j := 0) (by omega) rfl
    have at1 : atI ((c :: n :: r).map V.int) 1 = some (.int n) := at_of' (j := 1) (by omega) rfl
    refine w_ixL hs at0 ?_
    tm_at "vp"
    have hno : ¬ (1 ≤ c ∧ c ≤ 8 ∧ n ≤ c) → unpackK (c :: n :: r) = none := fun z => by rw [← hu, if_neg z]
    by_cases c1 : 1 ≤ c
    rotate_left
    · rw [decide_eq_false c1, if_neg (by decide)]
      tm_at "vp"
      exact kN (hno fun z => c1 z.1) _ (Same.refl _)
    rw [decide_eq_true c1, if_pos rfl]
    tm_at "vp"
    by_cases c8 : c ≤ 8
    rotate_left
    · rw [decide_eq_false c8, if_pos (by rfl), if_pos rfl]
      tm_at "vp"
      exact kN (hno fun z => c8 z.2.1) _ (Same.refl _)
    rw [decide_eq_true c8, if_neg (by decide)]
    tm_at "vp"
    refine w_ixL hs at1 ?_
    tm_at "vp"
    refine w_ixL hs at0 ?_
    tm_at "vp"
    by_cases hnc : c < n
    · rw [decide_eq_true hnc, if_pos rfl]
      tm_at "vp"
      exact kN (hno fun z => by omega) _ (Same.refl _)
    rw [decide_eq_false hnc, if_neg (by decide)]
    tm_at "vp"
    rename_i R hR
    refine w_ixL ((same_new hR (u := HO.lst [])).seq hs) at1 ?_
    tm_at "vp"
    simp only [List.set_cons_zero, List.set_cons_succ]
    refine w_onR1 ⟨by omega, by omega⟩ ?_
    have e0 : dueR [] n.toNat r = dueR [] (n.toNat - 0) ((c :: n :: r).drop 2) := rfl
    have hlen : 2 ≤ (c :: n :: r).length := by rw [List.length_cons, List.length_cons]; omega
    generalize hns : c :: n :: r = ns at *
    refine for_go walk_range (fun j σ H' => ∃ (u3 u4 u5 u6 u7 u8 u9 u10 u11 : Option V) (i : Nat) (xs : List V) (qs : Bag), σ = [some (.ref a), some (.ref R), some (.int (i : Nat)), u3, u4, u5, u6, u7, u8, u9, u10, u11] ∧ Same H H' ∧ H' R = some (.lst xs) ∧ DpAll K H' xs (qs.map pairD) ∧ i ≤ ns.length ∧ qs.length = j ∧ dueR [] n.toNat r = dueR qs (n.toNat - j) (ns.drop i))
      ⟨none, none, none, none, none, none, none, none, none, 2, [], [], rfl, same_new hR, upd_same, .nil, hlen, rfl, e0⟩ (fun _ _ _ _ _ => trivial) ?_ ?_
    rotate_left
    · rintro σ H1 ⟨u3, u4, u5, u6, u7, u8, u9, u10, u11, i, xs, qs, rfl, s1, hR1, hd1, hi, hql, hrow⟩
      rw [Nat.sub_self] at hrow
      have hrow : dueR [] n.toNat r = some (qs, ns.drop i) := hrow
      rw [if_pos ⟨c1, c8, by omega⟩, hrow] at hu
      tm_at "vp"
      refine w_lenL (s1.seq hs) ?_
      rw [List.length_map]
      refine ⟨rfl, ?_⟩
      by_cases hx : i = ns.length
      · have hu : some (c, qs) = unpackK ns := by
          rw [← hu, hx, List.drop_length]
        rw [hx, decide_eq_true rfl]
        refine w_bl ?_
        rw [if_pos rfl]
        tm_at "vp"
        refine w_ixL (s1.seq hs) at0 ?_
        tm_at "vp"
        refine w_tupL (SqL.of hR1) fun T hT => ?_
        tm_at "vp"
        rename_i L hL
        exact k c qs hu.symm L (.ref T) _ (s1.trans ((same_new hT).trans (same_new hL))) upd_same (.tup (SqT.of (hp_new upd_same hL)) (dps_same ((same_new hT (u := HO.tup xs)).trans (same_new hL)) hd1))
      · have hu : none = unpackK ns := by
          rw [← hu]
          cases hd : ns.drop i with
          | nil =>
            have := congrArg List.length hd
            rw [List.length_drop] at this
            simp only [List.length_nil] at this
            omega
          | cons x y => rfl
        rw [decide_eq_false (fun z => hx (by injection z with z; omega))]
        refine w_bl ?_
        rw [if_neg (by decide)]
        tm_at "vp"
        exact kN hu.symm _ s1
    rintro j y σ H2 H1 hj ⟨u3, u4, u5, u6, u7, u8, u9, u10, u11, i, xs, qs, rfl, s1, hR1, hd1, hi, hql, hrow⟩ ⟨rfl, rfl⟩
    have hm : n.toNat - j = (n.toNat - (j + 1)) + 1 := by omega
    rw [hm] at hrow
    have hs1 := s1.seq hs
    refine w_gname ?_
    simp only [List.set_cons_zero, List.set_cons_succ]
    tm_at "vq"
    have l1 : ∀ lo hi : Option Int, (cutL ns lo hi).length + [(0 : Int)].length ≤ 100000 := fun lo hi => Nat.le_trans (Nat.add_le_add_right (cutL_len ns lo hi) 1) (by omega)
    refine gd_asgI (K := K) (n := ((turnK ns i : Nat) : Int)) (gd_ix0 (gi_cat (gi_sl (ns := ns) (by exact rfl) hs1 (sl_at (K := K) (gd_var (by exact rfl) (.int _))) (sl_at (K := K) (gd_addY (gd_var (by exact rfl) (.int _)) gd_int))) (gi_one gd_int) (l1 _ _)) ((hd_at (a := i) rfl (by omega)).trans (by rw [turn_s h8]))) fun H2 s2 => ?_
    tm_at "vq"
    refine gi_asg (K := K) (gi_sl (ns := ns) (by exact rfl) (s2.seq hs1) (sl_at (K := K) (gd_addY (gd_var (by exact rfl) (.int _)) gd_int)) (sl_at (K := K) (gd_addY (gd_addY (gd_var (by exact rfl) (.int _)) gd_int) (gd_var (by exact rfl) (.int _))))) fun l5 H3 s3 h5 => ?_
    rw [cut_ab (a := i + 1) (b := turnK ns i) (by omega) (by omega)] at h5
    replace h5 : H3 l5 = some (.lst ((turnA ns i).map V.int)) := h5
    tm_at "vq"
    refine gd_asgI (K := K) (n := ((turnM ns i : Nat) : Int)) (gd_ix0 (gi_cat (gi_sl (ns := ns) (by exact rfl) ((s2.trans s3).seq hs1) (sl_at (K := K) (gd_addY (gd_addY (gd_var (by exact rfl) (.int _)) gd_int) (gd_var (by exact rfl) (.int _)))) (sl_at (K := K) (gd_addY (gd_addY (gd_var (by exact rfl) (.int _)) gd_int) (gd_var (by exact rfl) (.int _))))) (gi_one gd_int) (l1 _ _)) ((hd_at (a := i + 1 + turnK ns i) (by omega) (by omega)).trans (by rw [turn_m h8]))) fun H4 s4 => ?_
    tm_at "vq"
    refine gi_asg (K := K) (gi_sl (ns := ns) (by exact rfl) ((s2.trans (s3.trans s4)).seq hs1) (sl_at (K := K) (gd_addY (gd_addY (gd_var (by exact rfl) (.int _)) gd_int) (gd_var (by exact rfl) (.int _)))) (sl_at (K := K) (gd_addY (gd_addY (gd_addY (gd_var (by exact rfl) (.int _)) gd_int) (gd_var (by exact rfl) (.int _))) (gd_var (by exact rfl) (.int _))))) fun l7 H5 s5 h7 => ?_
    rw [cut_ab (a := i + 2 + turnK ns i) (b := turnM ns i) (by omega) (by omega)] at h7
    replace h7 : H5 l7 = some (.lst ((turnB ns i).map V.int)) := h7
    replace h5 := (s4.trans s5) _ _ h5
    have hR5 := (s2.trans (s3.trans (s4.trans s5))) _ _ hR1
    have hd5 := dps_same (s2.trans (s3.trans (s4.trans s5))) hd1
    have s15 := s1.trans (s2.trans (s3.trans (s4.trans s5)))
    clear s1 s2 s3 s4 s5 hs1 hR1 hd1
    have ei : ((i : Nat) : Int) + 2 + ((turnK ns i : Nat) : Int) + ((turnM ns i : Nat) : Int) = ((i + 2 + turnK ns i + turnM ns i : Nat) : Int) := by omega
    have bad : dueR qs (n.toNat - (j + 1) + 1) (ns.drop i) = none → unpackK ns = none := fun z => by rw [← hu, if_pos ⟨c1, c8, by omega⟩, hrow, z]
    have hBl : (turnB ns i).length ≤ turnM ns i := List.length_take_le _ _
    have hAl : (turnA ns i).length ≤ turnK ns i := List.length_take_le _ _
    tm_at "vp"
    by_cases k1 : (0 : Int) < ((turnK ns i : Nat) : Int)
    rotate_left
    · rw [decide_eq_false k1, if_neg (by decide)]
      tm_at "vp"
      exact kN (bad (turn_bad (.inl (by omega)) _ _)) _ s15
    rw [decide_eq_true k1, if_pos rfl]
    tm_at "vp"
    by_cases k9 : ((turnK ns i : Nat) : Int) < 9
    rotate_left
    · rw [decide_eq_false k9, if_pos (by rfl), if_pos rfl]
      tm_at "vp"
      exact kN (bad (turn_bad (.inr (.inl (by omega))) _ _)) _ s15
    rw [decide_eq_true k9, if_neg (by decide)]
    tm_at "vp"
    by_cases m0 : ((turnM ns i : Nat) : Int) = 0
    · rw [decide_eq_true m0, if_pos rfl, if_pos rfl]
      tm_at "vp"
      exact kN (bad (turn_bad (.inr (.inr (.inl (by omega)))) _ _)) _ s15
    rw [decide_eq_false m0, if_neg (by decide)]
    replace m0 : turnM ns i ≠ 0 := by omega
    tm_at "vp"
    refine w_lenL (SqL.of h5) ?_
    rw [List.length_map]
    tm_at "vp"
    by_cases la : (((turnA ns i).length : Nat) : Int) < ((turnK ns i : Nat) : Int)
    · rw [decide_eq_true la, if_pos rfl, if_pos rfl]
      tm_at "vp"
      exact kN (bad (turn_bad (.inr (.inr (.inr (.inl (by omega))))) _ _)) _ s15
    rw [decide_eq_false la, if_neg (by decide)]
    tm_at "vp"
    refine w_lenL (SqL.of h7) ?_
    rw [List.length_map]
    tm_at "vp"
    by_cases lb : (((turnB ns i).length : Nat) : Int) < ((turnM ns i : Nat) : Int)
    · rw [decide_eq_true lb, if_pos rfl, if_pos rfl]
      tm_at "vp"
      exact kN (bad (turn_bad (.inr (.inr (.inr (.inr (.inl (by omega)))))) _ _)) _ s15
    rw [decide_eq_false lb, if_neg (by decide)]
    have hA8 : B8 (turnA ns i) := fun y hy => h8 y (List.mem_of_mem_drop (List.mem_of_mem_take hy))
    have hB8 : B8 (turnB ns i) := fun y hy => h8 y (List.mem_of_mem_drop (List.mem_of_mem_take hy))
    have eA : (turnA ns i).length = turnK ns i := by omega
    have eB : (turnB ns i).length = turnM ns i := by omega
    have tk := fun h6 => turn_ok (ns := ns) (i := i) (by omega) m0 (by omega) (by omega) h6
    have tb := fun h6 => turn_bad (ns := ns) (i := i) (.inr (.inr (.inr (.inr (.inr h6)))))
    generalize turnA ns i = A at *
    generalize turnB ns i = B at *
    generalize turnK ns i = kk at *
    generalize turnM ns i = mm at *
    obtain ⟨b0, B', rfl⟩ : ∃ b0 B', B = b0 :: B' := by
      cases B with
      | nil => exact absurd eB.symm m0
      | cons b t => exact ⟨b, t, rfl⟩
    tm_at "vp"
    refine w_ixL (SqL.of h7) (v := .int b0) (at_of' (j := 0) (by omega) rfl) ?_
    tm_at "vp"
    by_cases d0 : b0 = 0
    · rw [decide_eq_true d0, if_pos rfl]
      tm_at "vp"
      exact kN (bad (tb (by rw [d0]; rfl) _ _)) _ s15
    rw [decide_eq_false d0, if_neg (by decide)]
    obtain ⟨hp, hle⟩ := tk (fun z => d0 (Option.some.inj z))
    clear tk tb
    have hAne : A ≠ [] := fun z => by rw [z] at eA; simp only [List.length_nil] at eA; omega
    obtain ⟨mn1, mn2⟩ := minL_spec hAne
    tm_at "vp"
    refine w_min (SqL.of h5) hAne ?_
    tm_at "vp"
    by_cases q97 : minL A < 97
    · rw [decide_eq_true q97, if_pos rfl, if_pos rfl]
      tm_at "vp"
      have hbl := not_let mn1 (by cases z : letB (minL A) with | false => rfl | true => have := letB_eq.mp z; omega)
      exact kN (bad (dueR_none (by rw [hp, if_pos hbl]))) _ s15
    rw [decide_eq_false q97, if_neg (by decide)]
    tm_at "vp"
    refine w_max (SqL.of h5) hAne fun mx mx1 mx2 => ?_
    tm_at "vp"
    by_cases q122 : 122 < mx
    · rw [decide_eq_true q122, if_pos rfl]
      tm_at "vp"
      have hbl := not_let mx1 (by cases z : letB mx with | false => rfl | true => have := letB_eq.mp z; omega)
      exact kN (bad (dueR_none (by rw [hp, if_pos hbl]))) _ s15
    rw [decide_eq_false q122, if_neg (by decide)]
    have hlet : ∀ y ∈ A, 97 ≤ y ∧ y ≤ 122 := fun y hy => ⟨by have := mn2 y hy; omega, by have := mx2 y hy; omega⟩
    have hal : A.all letB = true := List.all_eq_true.mpr fun y hy => letB_eq.mpr (hlet y hy)
    rw [if_neg (by rw [hal]; decide)] at hp
    clear mn1 mn2 mx1 mx2 q97 q122
    tm_at "vp"
    simp only [List.set_cons_zero, List.set_cons_succ]
    refine w_onL (SqL.of h5) ?_
    intro D hD
    refine lc_map (walk_list (xs := A.map V.int)) (by rw [List.length_map]; omega) (fun i y => ∃ k, A[i]? = some k ∧ y = .str (chrB k)) hD (fun _ s => s.seq (SqL.of h5)) ?_ ?_ mono_gname
    · rintro j' y G1 G2 hj' sg ⟨rfl, hy⟩ Qy hq
      rw [List.getElem?_map] at hy
      obtain ⟨k', hk, rfl⟩ := Option.map_eq_some_iff.mp hy
      have hk2 := hlet k' (List.mem_of_getElem? hk)
      refine w_gname ⟨rfl, ?_⟩
      tm_at "vp"
      refine w_ixS (z := letters) (by decide +kernel) (letters_at (by omega) (by omega)) (hq _ _ (Same.refl _) ⟨k', hk, ?_⟩)
      rw [show 97 + (k' - 97).toNat = k'.toNat by omega]
      rfl
    intro acc3 H6 s6 _ hacc3 hla3 hf3
    have e3 : acc3 = (A.map chrB).map V.str := by
      rw [List.map_map]
      exact acc_map (by rw [hla3, List.length_map]) hf3
    rw [e3] at hacc3
    have h7b := s6 _ _ h7
    have hR6 := s6 _ _ hR5
    have hd6 := dps_same s6 hd5
    have s16 := s15.trans s6
    clear hla3 hf3 e3 hD s6 h7 h5 hR5 hd5 s15
    refine w_join (SqL.of hacc3) (by rw [chrs_len, List.length_map]; show A.length + A.length * 0 ≤ _; omega) ?_
    rw [join_chr]
    tm_at "vp"
    simp only [List.set_cons_zero, List.set_cons_succ]
    refine w_onL (SqL.of h7b) ?_
    refine for_go (walk_list (xs := (b0 :: B').map V.int)) (fun t σ H' => ∃ u11, σ = [some (.ref a), some (.ref R), some (.int ((i : Nat) + 2 + (kk : Nat) + (mm : Nat))), some (.int (0 + (j : Nat))), some (.int (kk : Nat)), some (.ref l5), some (.int (mm : Nat)), some (.ref l7), some (.str (txtB A)), some (.int (valB ((b0 :: B').take t))), u10, u11] ∧ H' = H6) ⟨_, rfl, rfl⟩ (fun i σ H' _ ⟨_, _, e⟩ => by subst e; exact SqL.of h7b) ?_ ?_
    · rintro t y σ H7 H8 ht ⟨u11', rfl, rfl⟩ ⟨rfl, hy⟩
      rw [List.getElem?_map] at hy
      obtain ⟨d, hd, rfl⟩ := Option.map_eq_some_iff.mp hy
      refine w_gname ?_
      tm_at "vp"
      exact ⟨some (.int d), by rw [take_succ_snoc hd, value_app]; rfl, rfl⟩
    rintro σ H7 ⟨u11', rfl, rfl⟩
    rw [List.length_map, List.take_length]
    tm_at "vp"
    rename_i E hE
    refine w_neE (SqL.of (hp_new hR6 hE)) (SqL.of upd_same) ?_
    refine w_bl ?_
    have s17 := s16.trans (same_new hE (u := HO.lst []))
    have hR7 := hp_new hR6 hE (u := HO.lst [])
    have hd7 := dps_same (same_new hE (u := HO.lst [])) hd6
    generalize upd H7 E (HO.lst []) = H9 at *
    clear hR6 hd6 s16 h7b hacc3 hE
    have hxl : xs.length = qs.length := by rw [dps_len hd7, List.length_map]
    have hxn : xs.length < 300 := by omega
    have fin : okDue qs (txtB A, valB (b0 :: B')) = true → ∀ T, H9 T = none → (∃ (u3 u4 u5 u6 u7 u8 u9 u10' u11 : Option V) (i' : Nat) (xs' : List V) (qs' : Bag), ([some (.ref a), some (.ref R), some (.int ((i : Nat) + 2 + (kk : Nat) + (mm : Nat))), some (.int (0 + (j : Nat))), some (.int (kk : Nat)), some (.ref l5), some (.int (mm : Nat)), some (.ref l7), some (.str (txtB A)), some (.int (valB (b0 :: B'))), u10, u11'] : List (Option V)) = [some (.ref a), some (.ref R), some (.int (i' : Nat)), u3, u4, u5, u6, u7, u8, u9, u10', u11] ∧ Same H (upd (upd H9 T (.tup [.str (txtB A), .int (valB (b0 :: B'))])) R (.lst (xs ++ [.ref T]))) ∧ (upd (upd H9 T (.tup [.str (txtB A), .int (valB (b0 :: B'))])) R (.lst (xs ++ [.ref T]))) R = some (.lst xs') ∧ DpAll K (upd (upd H9 T (.tup [.str (txtB A), .int (valB (b0 :: B'))])) R (.lst (xs ++ [.ref T]))) xs' (qs'.map pairD) ∧ i' ≤ ns.length ∧ qs'.length = j + 1 ∧ dueR [] n.toNat r = dueR qs' (n.toNat - (j + 1)) (ns.drop i')) := fun ho T hT => by
      have hRT := hp_new hR7 hT (u := HO.tup [.str (txtB A), .int (valB (b0 :: B'))])
      have st : SameT (upd H9 T (.tup [.str (txtB A), .int (valB (b0 :: B'))])) (upd (upd H9 T (.tup [.str (txtB A), .int (valB (b0 :: B'))])) R (.lst (xs ++ [.ref T]))) := SameT.lst hRT
      refine ⟨_, _, _, _, _, _, _, _, _, i + 2 + kk + mm, xs ++ [.ref T], qs ++ [(txtB A, valB (b0 :: B'))], by rw [ei], same_mut (s17.trans (same_new hT)) hR, upd_same, ?_, hle, by rw [List.length_append, hql]; rfl, ?_⟩
      · rw [List.map_append]
        refine dps_snoc ?_ ?_
        · exact dps_flat st (dps_same (same_new hT) hd7) (by have := flat_bag qs; simpa [bagD, flatD] using this)
        · exact pair_mk (st.sqt (SqT.of upd_same))
      · rw [hrow, dueR_step hp, if_pos ho]
    have hl18 : decide (1 ≤ (txtB A).length) = true ∧ decide ((txtB A).length ≤ 8) = true := by
      rw [txtB_len]
      exact ⟨decide_eq_true (by omega), decide_eq_true (by omega)⟩
    cases hg : qs.getLast? with
    | none =>
      have hq0 := List.getLast?_eq_none_iff.mp hg
      have hx0 : xs.isEmpty = true := by rw [List.isEmpty_iff_length_eq_zero, hxl, hq0]; rfl
      have ho : okDue qs (txtB A, valB (b0 :: B')) = true := by
        unfold okDue
        rw [hg, hl18.1, hl18.2]; rfl
      rw [hx0, if_neg (by decide)]
      tm_at "vp"
      refine w_tyL hR7 ?_
      tm_at "vp"
      rename_i T hT
      refine w_append (hp_new hR7 hT) (by rw [sizeLine_eq]; omega) ?_
      tm_at "vp"
      exact fin ho T hT
    | some z =>
      obtain ⟨ys, hys⟩ := List.getLast?_eq_some_iff.mp hg
      have hyl : qs.length = ys.length + 1 := by rw [hys, List.length_append]; rfl
      have hx0 : xs.isEmpty = false := by
        cases hxs : xs with
        | nil => rw [hxs] at hxl; simp only [List.length_nil] at hxl; omega
        | cons _ _ => rfl
      have hvx : xs[ys.length]? = some (xs[ys.length]'(by omega)) := List.getElem?_eq_getElem (by omega)
      obtain ⟨dz, edz, hdz⟩ := dps_get hd7 hvx
      rw [hys, List.map_append, List.getElem?_append_right (by rw [List.length_map]; omega), List.length_map, Nat.sub_self] at edz
      have edz : pairD z = dz := Option.some.inj edz
      rw [← edz] at hdz
      obtain ⟨PP, ePP, hPP⟩ := pair_inv hdz
      rw [ePP] at hvx
      rw [hx0, if_pos (by rfl)]
      tm_at "vp"
      refine w_ixL (SqL.of hR7) (at_lastY (by omega) hvx) ?_
      tm_at "vp"
      refine w_ixT hPP (v := .str z.1) rfl ?_
      tm_at "vp"
      by_cases hlt : z.1.cps.toList < (txtB A).cps.toList
      · have ho : okDue qs (txtB A, valB (b0 :: B')) = true := by
          unfold okDue
          rw [hg, hl18.1, hl18.2]
          exact decide_eq_true hlt
        rw [decide_eq_true hlt, if_neg (by decide)]
        tm_at "vp"
        refine w_tyL hR7 ?_
        tm_at "vp"
        rename_i T hT
        refine w_append (hp_new hR7 hT) (by rw [sizeLine_eq]; omega) ?_
        tm_at "vp"
        exact fin ho T hT
      · have ho : okDue qs (txtB A, valB (b0 :: B')) ≠ true := by
          unfold okDue
          rw [hg, hl18.1, hl18.2]
          exact fun y => hlt (of_decide_eq_true y)
        rw [decide_eq_false hlt, if_pos (by rfl)]
        tm_at "vp"
        exact kN (bad (by rw [dueR_step hp, if_neg ho])) _ s17
theorem ok__law_changed {P : Program} {w : World} {K : PySem.W.Frag} {mg : Str → Option Value} {base : Heap} (fr : Fre mg) (D : Dfd K mg "_law_changed" s__law_changed)
    (h__law_draw : Has P w K mg base CX0 1 "_law_draw" s__law_draw ["_law_pool_here", "_law_many"] (sp__law_draw K)) : Has P w K mg base CX0 2 "_law_changed" s__law_changed ["_law_pool_here", "_law_numbers_here"] (sp__law_changed K) := by
  refine D.has sc__law_changed (fun vs H Q E h => ?_) (fun cdv A outer s H vs Q E hr hg h => ?_)
  · obtain ⟨p, a, ns, rfl, _⟩ := h; rfl
  · obtain ⟨p, a, ns, rfl, hp, hs, h8, hl, k⟩ := h
    have nd := sc__law_changed.nd
    refine ⟨_, PSs.nox (pss_cons (ps_for PassesOwn.never rfl (pi_range1 rfl fr.range_ (pa_cons (pe_op op_add pe_int (pe_fn h__law_draw pb__law_draw (hr.mono (by decide)) hg rfl pass0 (pa_cons (pv 0) (pa_cons pe_int pa_nil)))) pa_nil)) (pg_name (i := 2) nd rfl (Or.inl rfl))
        (pss_cons (ps_par3 (i := 3) (j := 4) (l := 5) rfl nd rfl rfl rfl (by decide) (by decide) (by decide) rfl rfl rfl (pa_cons (pe_fn h__law_draw pb__law_draw (hr.mono (by decide)) hg rfl pass0 (pa_cons (pv 0) (pa_cons (pe_op op_add (pe_callB (k_len K) rfl fr.len_ (by decide +kernel) (pa_cons (pv 1) pa_nil)) pe_int) pa_nil))) (pa_cons (pe_fn h__law_draw pb__law_draw (hr.mono (by decide)) hg rfl pass0 (pa_cons (pv 0) (pa_cons pe_int pa_nil))) (pa_cons (pe_fn h__law_draw pb__law_draw (hr.mono (by decide)) hg rfl pass0 (pa_cons (pv 0) (pa_cons pe_int pa_nil))) pa_nil))) rfl)
      (pss_cons (ps_set (i := 5) nd rfl (Or.inl rfl) (pe_ix (k_ixL K) (pe_lst (pa_cons (pv 5) (pa_cons pe_int (pa_cons pe_int (pa_cons pe_int (pa_cons pe_int pa_nil)))))) (pe_fn h__law_draw pb__law_draw (hr.mono (by decide)) hg rfl pass0 (pa_cons (pv 0) (pa_cons pe_int pa_nil))) (fun _ _ => rfl)))
      (pss_cons (ps_par (i := 6) (j := 7) rfl nd rfl rfl (by decide) rfl rfl (pa_cons (pe_slice (k_slL K) (pv 1) po_none (po_some (pv 3))) (pa_cons (pe_slice (k_slL K) (pv 1) (po_some (pv 3)) po_none) pa_nil)) rfl)
      (pss_one (ps_set (i := 1) nd rfl (Or.inl rfl) (pe_ix (k_ixL K) (pe_lst (pa_cons (pe_op op_cat (pv 6) (pe_slice (k_slL K) (pv 7) (po_some pe_int) po_none)) (pa_cons (pe_op op_cat (pe_op op_cat (pv 6) (pe_lst (pa_cons (pv 5) pa_nil))) (pv 7)) (pa_cons (pe_op op_cat (pe_op op_cat (pv 6) (pe_lst (pa_cons (pv 5) pa_nil))) (pe_slice (k_slL K) (pv 7) (po_some pe_int) po_none)) (pa_cons (pe_op op_cat (pe_op op_cat (pv 6) (pe_slice (k_slL K) (pv 7) po_none (po_some pe_int))) (pv 7)) (pa_cons (pe_op op_cat (pe_op op_cat (pe_op op_cat (pv 6) (pe_slice (k_slL K) (pv 7) (po_some pe_int) (po_some pe_int))) (pe_slice (k_slL K) (pv 7) po_none (po_some pe_int))) (pe_slice (k_slL K) (pv 7) (po_some pe_int) po_none)) pa_nil)))))) (pv 4) (fun _ _ => rfl))))))))
      (pss_one (ps_ret (pv 1)))), ?_⟩
    try dsimp only [cxOf]
    have est : ∀ a0 a1 : V, L2.start N__law_changed [a0, a1] = [some a0, some a1, none, none, none, none, none, none] := fun _ _ => rfl
    simp only [est]
    clear est
    tm_at "vp"
    refine ⟨p, 3, rfl, hp, by omega, by omega, fun r H1 r0 r1 s1 => ?_⟩
    tm_at "vp"
    refine w_onR1 ⟨by omega, by omega⟩ ?_
    have hp1 := s1 _ _ hp
    have hs1 := s1.seq hs
    refine for_go walk_range (fun i σ H' => ∃ (u2 u3 u4 u5 u6 u7 : Option V) (b : Addr) (ms : List Int), σ = [some (.ref p), some (.ref b), u2, u3, u4, u5, u6, u7] ∧ Same H1 H' ∧ SqL K H' b (ms.map V.int) ∧ B8 ms ∧ ms.length ≤ ns.length + i) ⟨none, none, none, none, none, none, a, ns, rfl, Same.refl _, hs1, h8, by omega⟩ (fun _ _ _ _ _ => trivial) ?_ ?_
    rotate_left
    · rintro σ H2 ⟨u2, u3, u4, u5, u6, u7, b, ms, rfl, s2, hb, m8, hml⟩
      tm_at "vp"
      exact k b ms _ (s1.trans s2) hb m8 (by omega)
    rintro i y σ H2 H3 hi ⟨u2, u3, u4, u5, u6, u7, b, ms, rfl, s2, hb, m8, hml⟩ ⟨rfl, rfl⟩
    refine w_gname ?_
    tm_at "vp"
    have hp3 := s2 _ _ hp1
    refine w_lenL hb ?_
    rw [List.length_map]
    tm_at "vp"
    refine ⟨p, ((ms.length : Nat) : Int) + 1, rfl, hp3, by omega, by omega, fun lo H4 a0 a1 s4 => ?_⟩
    tm_at "vp"
    refine ⟨p, 5, rfl, s4 _ _ hp3, by omega, by omega, fun w H5 w0 w1 s5 => ?_⟩
    have s35 := s4.trans s5
    tm_at "vp"
    refine ⟨p, 256, rfl, s35 _ _ hp3, by omega, by omega, fun nn H6 n0 n1 s6 => ?_⟩
    have s36 := s35.trans s6
    clear s4 s5 s35 s6
    tm_at "vp"
    rename_i L hL
    have hp6 := s36 _ _ hp3
    refine ⟨p, 5, rfl, hp_new hp6 hL, by omega, by omega, fun q H7 q0 q1 s7 => ?_⟩
    have hL7 := s7 _ _ (@upd_same H6 L (HO.lst [V.int nn, .int 1, .int 0, .int 97, .int 2]))
    have s37 := s36.trans ((same_new hL (u := HO.lst [V.int nn, .int 1, .int 0, .int 97, .int 2])).trans s7)
    obtain ⟨x, hx, x0, x1⟩ : ∃ x : Int, ([V.int nn, .int 1, .int 0, .int 97, .int 2] : List V)[q.toNat]? = some (.int x) ∧ 0 ≤ x ∧ x < 256 := by
      have h5 : q.toNat < 5 := by omega
      match q.toNat, h5 with
      | 0, _ => exact ⟨nn, rfl, n0, n1⟩
      | 1, _ => exact ⟨1, rfl, by decide, by decide⟩
      | 2, _ => exact ⟨0, rfl, by decide, by decide⟩
      | 3, _ => exact ⟨97, rfl, by decide, by decide⟩
      | 4, _ => exact ⟨2, rfl, by decide, by decide⟩
    refine w_ixL (SqL.of hL7) (v := .int x) (at_of' (j := q.toNat) (by omega) hx) ?_
    clear hL7 hx s36 hL hp6 s7
    have hb7 := s37.seq hb
    tm_at "vp"
    refine w_slL hb7 fun c1 hc1 => ?_
    tm_at "vp"
    have el : lo = ((lo.toNat : Nat) : Int) := by omega
    have f1 := @upd_same H7 c1 (HO.lst (cutV (ms.map V.int) none (some lo)))
    have sc1 := same_new hc1 (u := HO.lst (cutV (ms.map V.int) none (some lo)))
    have e1 : cutV (ms.map V.int) none (some lo) = (ms.take lo.toNat).map V.int := by rw [cutV_ints, el, cutL_hi, Int.toNat_natCast]
    have e2 : cutV (ms.map V.int) (some lo) none = (ms.drop lo.toNat).map V.int := by rw [cutV_ints, el, cutL_lo, Int.toNat_natCast]
    generalize upd H7 c1 (HO.lst (cutV (ms.map V.int) none (some lo))) = H8 at *
    refine w_slL (sc1.seq hb7) fun c2 hc2 => ?_
    have f2 := @upd_same H8 c2 (HO.lst (cutV (ms.map V.int) (some lo) none))
    have sc2 := same_new hc2 (u := HO.lst (cutV (ms.map V.int) (some lo) none))
    replace f1 := sc2 _ _ f1
    generalize upd H8 c2 (HO.lst (cutV (ms.map V.int) (some lo) none)) = H9 at *
    rw [e1] at f1
    rw [e2] at f2
    have s19 := s2.trans (s37.trans (sc1.trans sc2))
    clear e1 e2 sc1 sc2 hc1 hc2 hb7 s37 hb s2
    have l8 : B8 (ms.take lo.toNat) := fun y hy => m8 y (List.mem_of_mem_take hy)
    have r8 : B8 (ms.drop lo.toNat) := fun y hy => m8 y (List.mem_of_mem_drop hy)
    have lr : (ms.take lo.toNat).length + (ms.drop lo.toNat).length = ms.length := by rw [List.length_take, List.length_drop]; omega
    generalize ms.take lo.toNat = l at *
    generalize ms.drop lo.toNat = r' at *
    refine w_nil ?_
    refine w_p2 ?_
    refine w_nx ?_
    simp only [List.set_cons_zero, List.set_cons_succ]
    have cl : ∀ a b : Option Int, (cutL r' a b).length ≤ r'.length := fun a b => cutL_len r' a b
    have ok := chgs_ok (n := x) l8 r8 x0 x1
    have hw5 : w.toNat < (chgs l r' x).length := by show _ < 5; omega
    refine gd_asgE (gd_ixV (K := K) (ds := (chgs l r' x).map intsD) (m := w.toNat) (gl_lst (ga_cons (gi_d (gi_cat (gi_var (by exact rfl) f1) (gi_sl (by exact rfl) (SqL.of f2) (sl_at (K := K) gd_int) sl_no) ?_)) (ga_cons (gi_d (gi_cat (gi_cat (gi_var (by exact rfl) f1) (gi_one (gd_var (by exact rfl) (.int _))) ?_) (gi_var (by exact rfl) f2) ?_)) (ga_cons (gi_d (gi_cat (gi_cat (gi_var (by exact rfl) f1) (gi_one (gd_var (by exact rfl) (.int _))) ?_) (gi_sl (by exact rfl) (SqL.of f2) (sl_at (K := K) gd_int) sl_no) ?_)) (ga_cons (gi_d (gi_cat (gi_cat (gi_var (by exact rfl) f1) (gi_sl (by exact rfl) (SqL.of f2) sl_no (sl_at (K := K) gd_int)) ?_) (gi_var (by exact rfl) f2) ?_)) (ga_cons (gi_d (gi_cat (gi_cat (gi_cat (gi_var (by exact rfl) f1) (gi_sl (by exact rfl) (SqL.of f2) (sl_at (K := K) gd_int) (sl_at (K := K) gd_int)) ?_) (gi_sl (by exact rfl) (SqL.of f2) sl_no (sl_at (K := K) gd_int)) ?_) (gi_sl (by exact rfl) (SqL.of f2) (sl_at (K := K) gd_int) sl_no) ?_)) ga_nil))))) rfl) (by exact rfl) (by omega) (by rw [List.length_map]; exact hw5)) fun v HA sA dA => ?_
    rotate_right
    · rw [getD_ints hw5] at dA
      obtain ⟨b', rfl, hb'⟩ := ints_inv dA
      obtain ⟨k1, k2⟩ := ok _ (List.getElem_mem hw5)
      refine w_gname ?_
      exact ⟨_, _, _, _, _, _, b', _, rfl, s19.trans sA, hb', k1, by omega⟩
    all_goals (
      try simp only [List.length_append, List.length_singleton]
      have q1 := cl (some 1) none
      have q2 := cl none (some 1)
      have q3 := cl (some 1) (some 2)
      have q4 := cl (some 2) none
      omega)
theorem ok__law_one_right {P : Program} {w : World} {K : PySem.W.Frag} {mg : Str → Option Value} {base : Heap} (fr : Fre mg) (cl_Summary : ClsF K mg "Summary" ["capacity", "counts", "__bool__"]) (et_Summary___init___0 : ∀ H : Hp, SqT K H (dflA "Summary" "__init__" 0 K) []) (xE : ExF K mg) (D__law_caught : Dfd K mg "_law_caught" s__law_caught) (D : Dfd K mg "_law_one_right" s__law_one_right) (tb__law_one_right : TabB base mg (He.cT K ("_law_one_right", none)).1 (He.cT K ("_law_one_right", none)).2) (hu__law_one_right : ∀ p ∈ tabs K, p.1 = (He.cT K ("_law_one_right", none)).2 → p.2 = "_law_one_right.<locals>.<lambda>")
    (h__law_due : Has P w K mg base CX0 1 "_law_due" s__law_due ["_law_numbers_here"] (sp__law_due K))
    (h__law_blob : Has P w K mg base CX0 1 "_law_blob" s__law_blob ["_law_pieces_here", "_law_numbers_here"] (sp__law_blob K))
    (h__law_kind : HasP P w K mg base 1 "_law_kind" s__law_kind ["_law_e"] (sp__law_kind K))
    (h__law_fields : HasP P w K mg base 2 "_law_fields" s__law_fields ["_law_e"] (sp__law_fields K))
    (h_unpack_summary : Has P w K mg base (L2.CX P w) 8 "unpack_summary" s_unpack_summary ["data"] (sp_unpack_summary K))
    (h_Summary___repr__ : HasMA P w K mg base CX0 2 "Summary" "__repr__" "Summary.__repr__" s_Summary___repr__ [] ["self"] (sp_Summary___repr__ K)) : Has P w K mg base CX0 11 "_law_one_right" s__law_one_right ["_law_pieces_here", "_law_numbers_here"] (sp__law_one_right K) := by
  refine D.hasL sc__law_one_right (fun vs H Q E h => ?_) (fun cdv A outer s H vs Q E hcd hr hg h => ?_)
  · obtain ⟨p, a, ns, rfl, _⟩ := h; rfl
  · obtain ⟨p, a, ns, rfl, hp, hs, hok, hT, k⟩ := h
    have nd := sc__law_one_right.nd
    refine ⟨_, PSs.nox (pss_cons (ps_asg (pe_tup (pa_cons (pe_fn h__law_blob pb__law_blob (hr.mono (by decide)) hg rfl pass0 (pa_cons (pv 0) (pa_cons (pv 1) pa_nil))) (pa_cons (pe_fn h__law_due pb__law_due (hr.mono (by decide)) hg rfl pass0 (pa_cons (pv 1) pa_nil)) pa_nil))) (k_gtup K (n := 2) rfl (pgs_cons (pg_name (i := 2) nd rfl (Or.inr rfl)) (pgs_cons (pg_name (i := 3) nd rfl (Or.inl rfl)) pgs_nil))))
      (pss_cons (ps_set (i := 4) nd rfl (Or.inl rfl) (pe_lst (pa_cons (pe_caught (T := tabs K) (k := 8) D__law_caught sc__law_caught pb__law_caught (Or.inl rfl) rfl (fun cdv => caught_gives (hr.mono (by decide)) hg h__law_kind h__law_fields pb__law_kind pb__law_fields (xE.glo _ (by decide +kernel)) (xE.glo _ (by decide +kernel)) (xE.glo _ (by decide +kernel)) xE.exm rfl rfl rfl rfl rfl rfl) tb__law_one_right hcd (tm__law_one_right K) hu__law_one_right (by rfl) hg (hr.mono (by decide)) (lamS_by (sc := defScope s__law_one_right) (by decide +kernel)) rfl (fun _ _ _ _ _ => rfl) (fun A outer s H E f c' hgL hrL => (pe_fn h_unpack_summary pb_unpack_summary (hrL.mono (by decide)) hgL rfl (passE takesL) (pa_cons (pv 2) pa_nil)))) pa_nil)))
      (pss_cons (ps_expr (k_bm K PySem.F.plainAttrs_list PySem.F.slot_list_append PySem.F.type_list_append mt_append (pv 4) (pa_cons (pe_caught (T := tabs K) (k := 8) D__law_caught sc__law_caught pb__law_caught (Or.inl rfl) rfl (fun cdv => caught_gives (hr.mono (by decide)) hg h__law_kind h__law_fields pb__law_kind pb__law_fields (xE.glo _ (by decide +kernel)) (xE.glo _ (by decide +kernel)) (xE.glo _ (by decide +kernel)) xE.exm rfl rfl rfl rfl rfl rfl) tb__law_one_right hcd (tm__law_one_right K) hu__law_one_right (by rfl) hg (hr.mono (by decide)) (lamS_by (sc := defScope s__law_one_right) (by decide +kernel)) rfl (fun _ _ _ _ _ => rfl) (fun A outer s H E f c' hgL hrL => (pe_fnK0 h_unpack_summary kb_unpack_summary_0_data kb_unpack_summary_0_data_r (hrL.mono (by decide)) hgL rfl (passE takesL) (pk_cons (pv 2) pk_nil)))) pa_nil)))
      (pss_cons (ps_for PassesOwn.never rfl (k_iList K (pv 4)) (pg_name (i := 5) nd rfl (Or.inl rfl))
        (pss_one (ps_if (pt_cmpR o_isN (pv 3) pe_non (nomark _)) (pss_one (ps_if (pt_cmpR op_ne (pe_callB (k_reprY K h_Summary___repr__ bj_Summary___repr___1 (hr.mono (by decide)) hg hr.units) rfl fr.repr_ (by decide +kernel) (pa_cons (pv 5) pa_nil)) (pe_callB (k_reprY K h_Summary___repr__ bj_Summary___repr___1 (hr.mono (by decide)) hg hr.units) rfl fr.repr_ (by decide +kernel) (pa_cons (pe_lst (pa_cons pe_str (pa_cons (pv 2) pa_nil))) pa_nil)) (nomark _)) (pss_one (ps_ret pe_bl)) pss_nil)) (pss_one (ps_if (PW.pt (pw_or (pt_cmpR op_ne (pe_ix (k_ixL K) (pv 5) pe_int (fun _ _ => rfl)) pe_str (nomark _)) (pw_or1 (pt_not (pt_val (pe_callB (k_isi K) rfl fr.isinstance_ (by decide +kernel) (pa_cons (pe_ix (k_ixL K) (pv 5) pe_int (fun _ _ => rfl)) (pa_cons (pe_glob (v := .ref (He.ga K "Summary")) rfl cl_Summary.glo rfl) pa_nil)))))))) (pss_one (ps_ret pe_bl)) (pss_one (ps_if (pt_cmpR op_ne (pe_callB (k_repr K hg hr.units) rfl fr.repr_ (by decide +kernel) (pa_cons (pe_lst (pa_cons (k_fld K (pe_ix (k_ixL K) (pv 5) pe_int (fun _ _ => rfl)) rfl) (pa_cons (k_fld K (pe_ix (k_ixL K) (pv 5) pe_int (fun _ _ => rfl)) rfl) pa_nil))) pa_nil)) (pe_callB (k_repr K hg hr.units) rfl fr.repr_ (by decide +kernel) (pa_cons (pv 3) pa_nil)) (nomark _)) (pss_one (ps_ret pe_bl)) pss_nil)))))))
      (pss_one (ps_ret pe_bl)))))), ?_⟩
    try dsimp only [cxOf]
    obtain ⟨h8, hl, hun⟩ := hok
    have hRm : ∀ {H H' : Hp}, Same H H' → ∀ v t, OwnY K "Summary" (sp_Summary___repr__ K) [0] H v t → OwnY K "Summary" (sp_Summary___repr__ K) [0] H' v t := fun s => ownY_same s
    tm_at "wp"
    refine ⟨p, a, ns, rfl, hp, hs, h8, hl, ?_⟩
    tm_at "wp"
    refine ⟨a, ns, rfl, hs, h8, hl, fun hn H1 s1 => ?_, fun c ps hu ld b H1 s1 hld hb => ?_⟩
    · tm_at "wp"
      rename_i p0 hp0
      refine w_gtup (SqT.of upd_same) rfl ?_
      have T1 := hT.ext (s1.trans (same_new hp0 (u := HO.tup [V.byt (byteArr ns), V.non])))
      have x1 := ExtN.of (s1.trans (same_new hp0 (u := HO.tup [V.byt (byteArr ns), V.non])))
      generalize upd H1 p0 (HO.tup [V.byt (byteArr ns), V.non]) = H2 at *
      tm_at "wp"
      have told : ∀ (Hq H0 : Hp), ExtN H0 Hq → Tabs (tabs K) Hq → ∀ Q' : VK, (∀ l y H', ExtN H0 H' → Tabs (tabs K) H' → H' l = some (.lst [.str "text", y]) → y = .byt (byteArr ns) → Q' (.ref l) H') → sp_unpack_summary K [.byt (byteArr ns)] Hq (fun v H2 => LstC [.str "returned", v] H2 Q') (fun cls d H' => CaughtC K cls d H' Q') := fun Hq H0 xq Tq Q' hQ =>
        ⟨_, rfl, .inl ⟨ns, rfl, h8, by omega, (fun c' ps' hu' => by rw [hn] at hu'; cases hu'), fun _ dd H' s hdd => w_held (C := "InvalidText") (f := "text") (wd := "text") (by decide +kernel) hdd fun l Ht st hlt => hQ l _ Ht (xq.trans (ExtN.of (s.trans st))) (Tq.ext (s.trans st)) hlt rfl⟩⟩
      refine w_caughtR "text" (fun y' _ => y' = .byt (byteArr ns)) T1 (fun l2 y2 H8 x8 T8 hl2 hy2 => ?_) (fun Hq xq Tq Q' hQ => ?_)
      rotate_left
      · tm_at "wp"
        exact told Hq _ xq Tq Q' hQ
      subst hy2
      tm_at "wp"
      rename_i R hR
      have f1 : l2 ≠ R := fun z => by rw [z, hR] at hl2; cases hl2
      have x9 := x8.trans (ExtN.of (same_new hR (u := HO.lst [.ref l2])))
      have T9 := T8.ext (same_new hR (u := HO.lst [.ref l2]))
      have hR9 := @upd_same H8 R (HO.lst [.ref l2])
      have hl9 := hp_new hl2 hR (u := HO.lst [.ref l2])
      generalize upd H8 R (HO.lst [.ref l2]) = H9 at *
      refine w_tyL hR9 ?_
      tm_at "wp"
      refine w_caughtR "text" (fun y' _ => y' = .byt (byteArr ns)) T9 (fun l3 y3 HA xA TA hl3 hy3 => ?_) (fun Hq xq Tq Q' hQ => ?_)
      rotate_left
      · tm_at "wp"
        exact told Hq _ xq Tq Q' hQ
      subst hy3
      have hRA := lst_x xA hR9
      have f2 : l3 ≠ R := fun z => by rw [z, hRA] at hl3; cases hl3
      tm_at "wp"
      refine w_append hRA (by have := sizeLine_eq; show 1 < sizeLine; omega) ?_
      have xB := x_mut2 (o := HO.lst ([.ref l2] ++ [.ref l3])) (x9.trans xA) x8 hR
      have TB := tabs_upd (ys := [.ref l2] ++ [.ref l3]) TA hRA
      have hRB := @upd_same HA R (HO.lst ([.ref l2] ++ [.ref l3]))
      have hall : ∀ y ∈ [V.ref l2] ++ [.ref l3], ∃ l, y = .ref l ∧ (upd HA R (HO.lst ([.ref l2] ++ [.ref l3]))) l = some (.lst [.str "text", .byt (byteArr ns)]) := fun y hy => by
        rcases List.mem_append.mp hy with hy | hy
        · rw [List.mem_singleton.mp hy]
          exact ⟨l2, rfl, (upd_ne f1).trans (lst_x xA hl9)⟩
        · rw [List.mem_singleton.mp hy]
          exact ⟨l3, rfl, (upd_ne f2).trans hl3⟩
      generalize upd HA R (HO.lst ([.ref l2] ++ [.ref l3])) = HB at *
      clear hl9 T9 hR9 T8 hl2 xA TA hl3 hRA x9 hR f1 f2 x8 told
      obtain ⟨TT, hTT⟩ := due_reprY (H := HB) (wd := "text") hRm (by decide +kernel) (.inr ⟨_, 0, .own (.inr ⟨ns, rfl, by omega, rfl⟩), by omega, by have := lit_len ns; omega⟩ : ShY K (OwnY K "Summary" (sp_Summary___repr__ K) [0]) HB (.byt (byteArr ns)))
      tm_at "wp"
      refine w_onL (SqL.of hRB) ?_
      refine for_go (walk_list (xs := [V.ref l2] ++ [.ref l3])) (fun i σ H' => ∃ u5, σ = [some (.ref p), some (.ref a), some (.byt (byteArr ns)), some .non, some (.ref R), u5] ∧ Same HB H') ⟨_, rfl, Same.refl _⟩ (fun i σ H' _ ⟨_, _, s⟩ => SqL.of (s _ _ hRB)) ?_ ?_
      rotate_left
      · rintro σ H3 ⟨u5, rfl, sa⟩
        tm_at "wp"
        exact k _ ((x1.trans xB).trans (ExtN.of sa)) (TB.ext sa)
      rintro i y σ H3 H4 hi ⟨u5, rfl, sa⟩ ⟨rfl, hy⟩
      obtain ⟨l, rfl, hl⟩ := hall y (List.mem_of_getElem? hy)
      refine w_gname ?_
      tm_at "wp"
      refine hTT _ sa l _ (sa _ _ hl) fun H5 s5 => ?_
      tm_at "wp"
      rename_i M hM
      refine hTT _ ((sa.trans s5).trans (same_new hM)) M _ upd_same fun H6 s6 => ?_
      tm_at "wp"
      rw [decide_eq_true rfl]
      tm_at "wp"
      exact ⟨_, rfl, sa.trans (s5.trans ((same_new hM).trans s6))⟩
    · have hps := hun c ps hu
      have hsi := sum_showsY hps.1 hps.2
      tm_at "wp"
      rename_i p0 hp0
      refine w_gtup (SqT.of upd_same) rfl ?_
      have s1p := s1.trans (same_new hp0 (u := HO.tup [V.byt (byteArr ns), V.ref ld]))
      have T1 := hT.ext s1p
      have x1 := ExtN.of s1p
      have hld2 := hp_new hld hp0 (u := HO.tup [V.byt (byteArr ns), V.ref ld])
      have hb2 := dp_same (same_new hp0 (u := HO.tup [V.byt (byteArr ns), V.ref ld])) hb
      generalize upd H1 p0 (HO.tup [V.byt (byteArr ns), V.ref ld]) = H2 at *
      clear s1p hld hb hp0
      tm_at "wp"
      have told : ∀ (Hq H0 : Hp), ExtN H0 Hq → Tabs (tabs K) Hq → ∀ Q' : VK, (∀ l y H', ExtN H0 H' → Tabs (tabs K) H' → H' l = some (.lst [.str "returned", y]) → SumO K H' y c ps → Q' (.ref l) H') → sp_unpack_summary K [.byt (byteArr ns)] Hq (fun v H2 => LstC [.str "returned", v] H2 Q') (fun cls d H' => CaughtC K cls d H' Q') := fun Hq H0 xq Tq Q' hQ =>
        ⟨_, rfl, .inl ⟨ns, rfl, h8, by omega, (fun c' ps' hu' v' Hr sr hs => by
          rw [hu] at hu'
          cases hu'
          exact w_told fun l Ht st hlt => hQ l _ Ht (xq.trans (ExtN.of (sr.trans st))) (Tq.ext (sr.trans st)) hlt (sum_same st hs)), fun hn => by rw [hu] at hn; cases hn⟩⟩
      refine w_caughtR "returned" (fun y H' => SumO K H' y c ps) T1 (fun l2 y2 H8 x8 T8 hl2 hy2 => ?_) (fun Hq xq Tq Q' hQ => ?_)
      rotate_left
      · tm_at "wp"
        exact told Hq _ xq Tq Q' hQ
      tm_at "wp"
      rename_i R hR
      have f1 : l2 ≠ R := fun z => by rw [z, hR] at hl2; cases hl2
      have x9 := x8.trans (ExtN.of (same_new hR (u := HO.lst [.ref l2])))
      have T9 := T8.ext (same_new hR (u := HO.lst [.ref l2]))
      have hR9 := @upd_same H8 R (HO.lst [.ref l2])
      have hl9 := hp_new hl2 hR (u := HO.lst [.ref l2])
      have hy9 := sum_same (same_new hR (u := HO.lst [.ref l2])) hy2
      generalize upd H8 R (HO.lst [.ref l2]) = H9 at *
      refine w_tyL hR9 ?_
      tm_at "wp"
      refine w_caughtR "returned" (fun y H' => SumO K H' y c ps) T9 (fun l3 y3 HA xA TA hl3 hy3 => ?_) (fun Hq xq Tq Q' hQ => ?_)
      rotate_left
      · tm_at "wp"
        exact told Hq _ xq Tq Q' hQ
      have hRA := lst_x xA hR9
      have f2 : l3 ≠ R := fun z => by rw [z, hRA] at hl3; cases hl3
      tm_at "wp"
      refine w_append hRA (by have := sizeLine_eq; show 1 < sizeLine; omega) ?_
      have xB := x_mut2 (o := HO.lst ([.ref l2] ++ [.ref l3])) (x9.trans xA) x8 hR
      have TB := tabs_upd (ys := [.ref l2] ++ [.ref l3]) TA hRA
      have hRB := @upd_same HA R (HO.lst ([.ref l2] ++ [.ref l3]))
      have hall : ∀ y ∈ [V.ref l2] ++ [.ref l3], ∃ l z, y = .ref l ∧ (upd HA R (HO.lst ([.ref l2] ++ [.ref l3]))) l = some (.lst [.str "returned", z]) ∧ SumO K (upd HA R (HO.lst ([.ref l2] ++ [.ref l3]))) z c ps := fun y hy => by
        rcases List.mem_append.mp hy with hy | hy
        · rw [List.mem_singleton.mp hy]
          exact ⟨l2, y2, rfl, (upd_ne f1).trans (lst_x xA hl9), sumO_upd hRA (sum_x xA hy9)⟩
        · rw [List.mem_singleton.mp hy]
          exact ⟨l3, y3, rfl, (upd_ne f2).trans hl3, sumO_upd hRA hy3⟩
      generalize upd HA R (HO.lst ([.ref l2] ++ [.ref l3])) = HB at *
      have hldB := lst_x xB hld2
      have hbB : Dp K HB b (bagD ps) := dx_bag (dx_x xB (dp_dx hb2))
      clear hl9 hy9 T9 hR9 T8 hl2 hy2 xA TA hl3 hy3 hRA x9 hR f1 f2 x8 told hld2 hb2
      tm_at "wp"
      refine w_onL (SqL.of hRB) ?_
      refine for_go (walk_list (xs := [V.ref l2] ++ [.ref l3])) (fun i σ H' => ∃ u5, σ = [some (.ref p), some (.ref a), some (.byt (byteArr ns)), some (.ref ld), some (.ref R), u5] ∧ Same HB H') ⟨_, rfl, Same.refl _⟩ (fun i σ H' _ ⟨_, _, s⟩ => SqL.of (s _ _ hRB)) ?_ ?_
      rotate_left
      · rintro σ H3 ⟨u5, rfl, sa⟩
        tm_at "wp"
        exact k _ ((x1.trans xB).trans (ExtN.of sa)) (TB.ext sa)
      rintro i y σ H3 H4 hi ⟨u5, rfl, sa⟩ ⟨rfl, hy⟩
      obtain ⟨l, z, rfl, hl4, hs4⟩ := hall y (List.mem_of_getElem? hy)
      have hla := sa _ _ hl4
      have hs2 := sum_same sa hs4
      refine w_gname ?_
      tm_at "wp"
      refine w_ixL (SqL.of hla) (v := .str "returned") rfl ?_
      tm_at "wp"
      rw [decide_eq_true rfl, if_neg (by decide)]
      tm_at "wp"
      refine w_ixL (SqL.of hla) (v := z) rfl ?_
      tm_at "wp"
      refine w_isSum cl_Summary hs2 ?_
      tm_at "wp"
      refine w_ixL (SqL.of hla) (v := z) rfl ?_
      tm_at "wp"
      refine w_sumCap cl_Summary hs2 ?_
      tm_at "wp"
      refine w_ixL (SqL.of hla) (v := z) rfl ?_
      tm_at "wp"
      refine w_sumCnt cl_Summary hs2 fun bb hbb => ?_
      tm_at "wp"
      rename_i L hL
      refine w_repr (d := .list [.int c, bagD ps]) (.lst (SqL.of upd_same) (.cons (.int _) (.cons (dp_same (same_new hL) hbb) .nil))) hsi ?_
      tm_at "wp"
      refine w_repr (d := .list [.int c, bagD ps]) (.lst (SqL.of (hp_new (sa _ _ hldB) hL)) (.cons (.int _) (.cons (dp_same (sa.trans (same_new hL)) hbB) .nil))) hsi ?_
      tm_at "wp"
      rw [decide_eq_true rfl]
      tm_at "wp"
      exact ⟨_, rfl, sa.trans (same_new hL)⟩
theorem ok__law_by_hand {P : Program} {w : World} {K : PySem.W.Frag} {mg : Str → Option Value} {base : Heap} (fr : Fre mg) (D : Dfd K mg "_law_by_hand" s__law_by_hand) : Has P w K mg base CX0 1 "_law_by_hand" s__law_by_hand [] (sp__law_by_hand K) := by
  refine D.has sc__law_by_hand (fun vs H Q E h => ?_) (fun cdv A outer s H vs Q E hr hg h => ?_)
  · obtain ⟨rfl, _⟩ := h; rfl
  · obtain ⟨rfl, k⟩ := h
    have nd := sc__law_by_hand.nd
    refine ⟨_, PSs.nox (pss_cons (ps_set (i := 0) nd rfl (Or.inl rfl) (pe_lst (pa_cons (pe_lst pa_nil) (pa_cons (pe_lst (pa_cons pe_int pa_nil)) (pa_cons (pe_lst (pa_cons pe_int pa_nil)) (pa_cons (pe_lst (pa_cons pe_int pa_nil)) (pa_cons (pe_lst (pa_cons pe_int pa_nil)) (pa_cons (pe_lst (pa_cons pe_int (pa_cons pe_int pa_nil))) (pa_cons (pe_lst (pa_cons pe_int (pa_cons pe_int pa_nil))) (pa_cons (pe_lst (pa_cons pe_int (pa_cons pe_int pa_nil))) (pa_cons (pe_lst (pa_cons pe_int (pa_cons pe_int pa_nil))) (pa_cons (pe_lst (pa_cons pe_int (pa_cons pe_int pa_nil))) (pa_cons (pe_lst (pa_cons pe_int (pa_cons pe_int pa_nil))) (pa_cons (pe_lst (pa_cons pe_int (pa_cons pe_int (pa_cons pe_int pa_nil)))) pa_nil))))))))))))))
      (pss_cons (ps_set (i := 0) nd rfl (Or.inl rfl) (pe_op op_cat (pv 0) (pe_lst (pa_cons (pe_lst (pa_cons pe_int (pa_cons pe_int pa_nil))) (pa_cons (pe_lst (pa_cons pe_int (pa_cons pe_int (pa_cons pe_int (pa_cons pe_int (pa_cons pe_int (pa_cons pe_int pa_nil))))))) pa_nil)))))
      (pss_cons (ps_set (i := 0) nd rfl (Or.inl rfl) (pe_op op_cat (pv 0) (pe_lst (pa_cons (pe_lst (pa_cons pe_int (pa_cons pe_int (pa_cons pe_int (pa_cons pe_int (pa_cons pe_int (pa_cons pe_int pa_nil))))))) (pa_cons (pe_lst (pa_cons pe_int (pa_cons pe_int (pa_cons pe_int (pa_cons pe_int (pa_cons pe_int pa_nil)))))) (pa_cons (pe_lst (pa_cons pe_int (pa_cons pe_int (pa_cons pe_int (pa_cons pe_int pa_nil))))) (pa_cons (pe_lst (pa_cons pe_int (pa_cons pe_int (pa_cons pe_int pa_nil)))) (pa_cons (pe_lst (pa_cons pe_int (pa_cons pe_int (pa_cons pe_int (pa_cons pe_int (pa_cons pe_int pa_nil)))))) pa_nil))))))))
      (pss_cons (ps_set (i := 0) nd rfl (Or.inl rfl) (pe_op op_cat (pv 0) (pe_lst (pa_cons (pe_lst (pa_cons pe_int (pa_cons pe_int (pa_cons pe_int (pa_cons pe_int (pa_cons pe_int (pa_cons pe_int pa_nil))))))) pa_nil))))
      (pss_cons (ps_set (i := 0) nd rfl (Or.inl rfl) (pe_op op_cat (pv 0) (pe_lst (pa_cons (pe_lst (pa_cons pe_int (pa_cons pe_int (pa_cons pe_int (pa_cons pe_int (pa_cons pe_int (pa_cons pe_int pa_nil))))))) (pa_cons (pe_lst (pa_cons pe_int (pa_cons pe_int (pa_cons pe_int (pa_cons pe_int (pa_cons pe_int (pa_cons pe_int pa_nil))))))) (pa_cons (pe_lst (pa_cons pe_int (pa_cons pe_int (pa_cons pe_int (pa_cons pe_int (pa_cons pe_int (pa_cons pe_int pa_nil))))))) pa_nil))))))
      (pss_cons (ps_set (i := 0) nd rfl (Or.inl rfl) (pe_op op_cat (pv 0) (pe_lst (pa_cons (pe_lst (pa_cons pe_int (pa_cons pe_int (pa_cons pe_int (pa_cons pe_int (pa_cons pe_int (pa_cons pe_int pa_nil))))))) (pa_cons (pe_lst (pa_cons pe_int (pa_cons pe_int (pa_cons pe_int (pa_cons pe_int (pa_cons pe_int (pa_cons pe_int (pa_cons pe_int pa_nil)))))))) pa_nil)))))
      (pss_cons (ps_set (i := 0) nd rfl (Or.inl rfl) (pe_op op_cat (pv 0) (pe_lst (pa_cons (pe_lst (pa_cons pe_int (pa_cons pe_int (pa_cons pe_int (pa_cons pe_int (pa_cons pe_int (pa_cons pe_int (pa_cons pe_int pa_nil)))))))) (pa_cons (pe_lst (pa_cons pe_int (pa_cons pe_int (pa_cons pe_int (pa_cons pe_int (pa_cons pe_int (pa_cons pe_int pa_nil))))))) (pa_cons (pe_lst (pa_cons pe_int (pa_cons pe_int (pa_cons pe_int (pa_cons pe_int (pa_cons pe_int (pa_cons pe_int (pa_cons pe_int pa_nil)))))))) pa_nil))))))
      (pss_cons (ps_set (i := 0) nd rfl (Or.inl rfl) (pe_op op_cat (pv 0) (pe_lst (pa_cons (pe_lst (pa_cons pe_int (pa_cons pe_int (pa_cons pe_int (pa_cons pe_int (pa_cons pe_int (pa_cons pe_int pa_nil))))))) (pa_cons (pe_lst (pa_cons pe_int (pa_cons pe_int (pa_cons pe_int (pa_cons pe_int (pa_cons pe_int (pa_cons pe_int (pa_cons pe_int pa_nil)))))))) pa_nil)))))
      (pss_cons (ps_set (i := 1) nd rfl (Or.inl rfl) (pe_lst (pa_cons pe_int (pa_cons pe_int (pa_cons pe_int (pa_cons pe_int (pa_cons pe_int (pa_cons pe_int (pa_cons pe_int (pa_cons pe_int pa_nil))))))))))
      (pss_cons (ps_set (i := 0) nd rfl (Or.inl rfl) (pe_op op_cat (pv 0) (pe_lst (pa_cons (pe_op op_cat (pe_lst (pa_cons pe_int (pa_cons pe_int pa_nil))) (pv 1)) (pa_cons (pe_op op_cat (pe_lst (pa_cons pe_int (pa_cons pe_int pa_nil))) (pv 1)) (pa_cons (pe_op op_cat (pe_lst (pa_cons pe_int (pa_cons pe_int pa_nil))) (pv 1)) (pa_cons (pe_op op_cat (pe_op op_cat (pe_lst (pa_cons pe_int (pa_cons pe_int pa_nil))) (pe_slice (k_slL K) (pv 1) (po_some pe_int) po_none)) (pe_slice (k_slL K) (pv 1) po_none (po_some pe_int))) pa_nil)))))))
      (pss_cons (ps_set (i := 0) nd rfl (Or.inl rfl) (pe_op op_cat (pv 0) (pe_lst (pa_cons (pe_op op_cat (pe_lst (pa_cons pe_int (pa_cons pe_int pa_nil))) (pe_op op_rep (pe_slice (k_slL K) (pv 1) po_none (po_some pe_int)) pe_int)) (pa_cons (pe_op op_cat (pe_lst (pa_cons pe_int (pa_cons pe_int pa_nil))) (pv 1)) pa_nil)))))
      (pss_cons (ps_set (i := 0) nd rfl (Or.inl rfl) (pe_op op_cat (pv 0) (pe_lst (pa_cons (pe_op op_cat (pe_lst (pa_cons pe_int (pa_cons pe_int pa_nil))) (pe_slice (k_slL K) (pv 1) po_none (po_some (pe_un un_neg pe_int)))) (pa_cons (pe_op op_cat (pe_op op_cat (pe_lst (pa_cons pe_int (pa_cons pe_int pa_nil))) (pv 1)) (pe_lst (pa_cons pe_int pa_nil))) (pa_cons (pe_op op_cat (pe_op op_cat (pe_lst (pa_cons pe_int (pa_cons pe_int (pa_cons pe_int pa_nil)))) (pe_op op_rep (pe_lst (pa_cons pe_int pa_nil)) pe_int)) (pe_lst (pa_cons pe_int (pa_cons pe_int pa_nil)))) pa_nil))))))
      (pss_cons (ps_set (i := 0) nd rfl (Or.inl rfl) (pe_op op_cat (pv 0) (pe_lst (pa_cons (pe_op op_cat (pe_op op_cat (pe_lst (pa_cons pe_int (pa_cons pe_int (pa_cons pe_int pa_nil)))) (pe_op op_rep (pe_lst (pa_cons pe_int pa_nil)) pe_int)) (pe_lst (pa_cons pe_int (pa_cons pe_int pa_nil)))) pa_nil))))
      (pss_cons (ps_set (i := 0) nd rfl (Or.inl rfl) (pe_op op_cat (pv 0) (pe_lst (pa_cons (pe_op op_cat (pe_lst (pa_cons pe_int (pa_cons pe_int (pa_cons pe_int (pa_cons pe_int (pa_cons pe_int pa_nil)))))) (pe_op op_rep (pe_lst (pa_cons pe_int pa_nil)) pe_int)) (pa_cons (pe_op op_cat (pe_lst (pa_cons pe_int (pa_cons pe_int (pa_cons pe_int (pa_cons pe_int (pa_cons pe_int pa_nil)))))) (pe_op op_rep (pe_lst (pa_cons pe_int pa_nil)) pe_int)) pa_nil)))))
      (pss_cons (ps_set (i := 0) nd rfl (Or.inl rfl) (pe_op op_cat (pv 0) (pe_lst (pa_cons (pe_op op_cat (pe_op op_cat (pe_lst (pa_cons pe_int (pa_cons pe_int (pa_cons pe_int pa_nil)))) (pe_op op_rep (pe_lst (pa_cons pe_int pa_nil)) pe_int)) (pe_lst (pa_cons pe_int (pa_cons pe_int pa_nil)))) pa_nil))))
      (pss_one (ps_ret (pv 0)))))))))))))))))), ?_⟩
    try dsimp only [cxOf]
    have est : L2.start N__law_by_hand [] = [none, none] := rfl
    simp only [est]
    clear est
    tm_at "vq"
    refine gl_asg (K := K) (ds := hb1.map intsD) (by tm_at "gd") fun l1 xs1 H1 s1 hl1 hx1 => ?_
    tm_at "vq"
    refine gl_asg (K := K) (ds := hb1.map intsD ++ hb2.map intsD) (gl_cat (gl_var (by with_unfolding_all exact rfl) hl1 hx1) (by tm_at "gd") rfl) fun l2 xs2 H2 s2 hl2 hx2 => ?_
    tm_at "vq"
    refine gl_asg (K := K) (ds := (hb1.map intsD ++ hb2.map intsD) ++ hb3.map intsD) (gl_cat (gl_var (by with_unfolding_all exact rfl) hl2 hx2) (by tm_at "gd") rfl) fun l3 xs3 H3 s3 hl3 hx3 => ?_
    tm_at "vq"
    refine gl_asg (K := K) (ds := ((hb1.map intsD ++ hb2.map intsD) ++ hb3.map intsD) ++ hb4.map intsD) (gl_cat (gl_var (by with_unfolding_all exact rfl) hl3 hx3) (by tm_at "gd") rfl) fun l4 xs4 H4 s4 hl4 hx4 => ?_
    tm_at "vq"
    refine gl_asg (K := K) (ds := (((hb1.map intsD ++ hb2.map intsD) ++ hb3.map intsD) ++ hb4.map intsD) ++ hb5.map intsD) (gl_cat (gl_var (by with_unfolding_all exact rfl) hl4 hx4) (by tm_at "gd") rfl) fun l5 xs5 H5 s5 hl5 hx5 => ?_
    tm_at "vq"
    refine gl_asg (K := K) (ds := ((((hb1.map intsD ++ hb2.map intsD) ++ hb3.map intsD) ++ hb4.map intsD) ++ hb5.map intsD) ++ hb6.map intsD) (gl_cat (gl_var (by with_unfolding_all exact rfl) hl5 hx5) (by tm_at "gd") rfl) fun l6 xs6 H6 s6 hl6 hx6 => ?_
    tm_at "vq"
    refine gl_asg (K := K) (ds := (((((hb1.map intsD ++ hb2.map intsD) ++ hb3.map intsD) ++ hb4.map intsD) ++ hb5.map intsD) ++ hb6.map intsD) ++ hb7.map intsD) (gl_cat (gl_var (by with_unfolding_all exact rfl) hl6 hx6) (by tm_at "gd") rfl) fun l7 xs7 H7 s7 hl7 hx7 => ?_
    tm_at "vq"
    refine gl_asg (K := K) (ds := ((((((hb1.map intsD ++ hb2.map intsD) ++ hb3.map intsD) ++ hb4.map intsD) ++ hb5.map intsD) ++ hb6.map intsD) ++ hb7.map intsD) ++ hb8.map intsD) (gl_cat (gl_var (by with_unfolding_all exact rfl) hl7 hx7) (by tm_at "gd") rfl) fun l8 xs8 H8 s8 hl8 hx8 => ?_
    tm_at "vq"
    refine gi_asg (K := K) (ns := two19) (gi_lit (ns := two19) (by unfold two19; tm_at "gd") rfl) fun lt Ht st ht => ?_
    replace hl8 := st _ _ hl8
    replace hx8 := dxs_same st hx8
    tm_at "vq"
    refine gl_asg (K := K) (ds := (((((((hb1.map intsD ++ hb2.map intsD) ++ hb3.map intsD) ++ hb4.map intsD) ++ hb5.map intsD) ++ hb6.map intsD) ++ hb7.map intsD) ++ hb8.map intsD) ++ hb9.map intsD) (gl_cat (gl_var (by with_unfolding_all exact rfl) hl8 hx8) (gl_lst (ga_cons (gi_d (gi_cat (gi_lit (ns := [2, 2]) (by tm_at "gd") rfl) (gi_var (by exact rfl) ht) (by decide))) (ga_cons (gi_d (gi_cat (gi_lit (ns := [1, 2]) (by tm_at "gd") rfl) (gi_var (by exact rfl) ht) (by decide))) (ga_cons (gi_d (gi_cat (gi_lit (ns := [2, 1]) (by tm_at "gd") rfl) (gi_var (by exact rfl) ht) (by decide))) (ga_cons (gi_d (gi_cat (gi_cat (gi_lit (ns := [2, 2]) (by tm_at "gd") rfl) (gi_sl (by exact rfl) (SqL.of ht) (sl_at (K := K) gd_int) sl_no) (by decide)) (gi_sl (by exact rfl) (SqL.of ht) sl_no (sl_at (K := K) gd_int)) (by decide))) ga_nil)))) rfl) rfl) fun l9 xs9 H9 s9 hl9 hx9 => ?_
    replace ht := s9 _ _ ht
    tm_at "vq"
    refine gl_asg (K := K) (ds := ((((((((hb1.map intsD ++ hb2.map intsD) ++ hb3.map intsD) ++ hb4.map intsD) ++ hb5.map intsD) ++ hb6.map intsD) ++ hb7.map intsD) ++ hb8.map intsD) ++ hb9.map intsD) ++ hb10.map intsD) (gl_cat (gl_var (by with_unfolding_all exact rfl) hl9 hx9) (gl_lst (ga_cons (gi_d (gi_cat (gi_lit (ns := [2, 2]) (by tm_at "gd") rfl) (gi_rep (k := 2) (gi_sl (by exact rfl) (SqL.of ht) sl_no (sl_at (K := K) gd_int)) (by decide) (by decide)) (by decide))) (ga_cons (gi_d (gi_cat (gi_lit (ns := [3, 3]) (by tm_at "gd") rfl) (gi_var (by exact rfl) ht) (by decide))) ga_nil)) rfl) rfl) fun l10 xs10 H10 s10 hl10 hx10 => ?_
    replace ht := s10 _ _ ht
    tm_at "vq"
    refine gl_asg (K := K) (ds := (((((((((hb1.map intsD ++ hb2.map intsD) ++ hb3.map intsD) ++ hb4.map intsD) ++ hb5.map intsD) ++ hb6.map intsD) ++ hb7.map intsD) ++ hb8.map intsD) ++ hb9.map intsD) ++ hb10.map intsD) ++ hb11.map intsD) (gl_cat (gl_var (by with_unfolding_all exact rfl) hl10 hx10) (gl_lst (ga_cons (gi_d (gi_cat (gi_lit (ns := [2, 2]) (by tm_at "gd") rfl) (gi_sl (by exact rfl) (SqL.of ht) sl_no (sl_at (K := K) gd_neg)) (by decide))) (ga_cons (gi_d (gi_cat (gi_cat (gi_lit (ns := [2, 2]) (by tm_at "gd") rfl) (gi_var (by exact rfl) ht) (by decide)) (gi_lit (ns := [0]) (by tm_at "gd") rfl) (by decide))) (ga_cons (gi_d (gi_cat (gi_cat (gi_lit (ns := [1, 1, 8]) (by tm_at "gd") rfl) (gi_rep (k := 8) (gi_lit (ns := [97]) (by tm_at "gd") rfl) (by decide) (by decide)) (by decide)) (gi_lit (ns := [1, 1]) (by tm_at "gd") rfl) (by decide))) ga_nil))) rfl) rfl) fun l11 xs11 H11 s11 hl11 hx11 => ?_
    replace ht := s11 _ _ ht
    tm_at "vq"
    refine gl_asg (K := K) (ds := ((((((((((hb1.map intsD ++ hb2.map intsD) ++ hb3.map intsD) ++ hb4.map intsD) ++ hb5.map intsD) ++ hb6.map intsD) ++ hb7.map intsD) ++ hb8.map intsD) ++ hb9.map intsD) ++ hb10.map intsD) ++ hb11.map intsD) ++ hb12.map intsD) (gl_cat (gl_var (by with_unfolding_all exact rfl) hl11 hx11) (gl_lst (ga_cons (gi_d (gi_cat (gi_cat (gi_lit (ns := [1, 1, 9]) (by tm_at "gd") rfl) (gi_rep (k := 9) (gi_lit (ns := [97]) (by tm_at "gd") rfl) (by decide) (by decide)) (by decide)) (gi_lit (ns := [1, 1]) (by tm_at "gd") rfl) (by decide))) ga_nil) rfl) rfl) fun l12 xs12 H12 s12 hl12 hx12 => ?_
    replace ht := s12 _ _ ht
    tm_at "vq"
    refine gl_asg (K := K) (ds := (((((((((((hb1.map intsD ++ hb2.map intsD) ++ hb3.map intsD) ++ hb4.map intsD) ++ hb5.map intsD) ++ hb6.map intsD) ++ hb7.map intsD) ++ hb8.map intsD) ++ hb9.map intsD) ++ hb10.map intsD) ++ hb11.map intsD) ++ hb12.map intsD) ++ hb13.map intsD) (gl_cat (gl_var (by with_unfolding_all exact rfl) hl12 hx12) (gl_lst (ga_cons (gi_d (gi_cat (gi_lit (ns := [1, 1, 1, 97, 200]) (by tm_at "gd") rfl) (gi_rep (k := 200) (gi_lit (ns := [1]) (by tm_at "gd") rfl) (by decide) (by decide)) (by decide))) (ga_cons (gi_d (gi_cat (gi_lit (ns := [1, 1, 1, 97, 200]) (by tm_at "gd") rfl) (gi_rep (k := 199) (gi_lit (ns := [1]) (by tm_at "gd") rfl) (by decide) (by decide)) (by decide))) ga_nil)) rfl) rfl) fun l13 xs13 H13 s13 hl13 hx13 => ?_
    replace ht := s13 _ _ ht
    tm_at "vq"
    refine gl_asg (K := K) (ds := ((((((((((((hb1.map intsD ++ hb2.map intsD) ++ hb3.map intsD) ++ hb4.map intsD) ++ hb5.map intsD) ++ hb6.map intsD) ++ hb7.map intsD) ++ hb8.map intsD) ++ hb9.map intsD) ++ hb10.map intsD) ++ hb11.map intsD) ++ hb12.map intsD) ++ hb13.map intsD) ++ hb14.map intsD) (gl_cat (gl_var (by with_unfolding_all exact rfl) hl13 hx13) (gl_lst (ga_cons (gi_d (gi_cat (gi_cat (gi_lit (ns := [1, 1, 255]) (by tm_at "gd") rfl) (gi_rep (k := 255) (gi_lit (ns := [97]) (by tm_at "gd") rfl) (by decide) (by decide)) (by decide)) (gi_lit (ns := [1, 1]) (by tm_at "gd") rfl) (by decide))) ga_nil) rfl) rfl) fun l14 xs14 H14 s14 hl14 hx14 => ?_
    have sA := s1.trans (s2.trans (s3.trans (s4.trans (s5.trans (s6.trans (s7.trans (s8.trans (st.trans (s9.trans (s10.trans (s11.trans (s12.trans (s13.trans s14)))))))))))))
    have hx : DxAll K H14 xs14 (hands.map intsD) := by
      unfold hands
      simp only [List.map_append]
      exact hx14
    tm_at "vp"
    exact k l14 xs14 _ sA hl14 hx
theorem ok__law_others_right {P : Program} {w : World} {K : PySem.W.Frag} {mg : Str → Option Value} {base : Heap} (fr : Fre mg) (cl_Summary : ClsF K mg "Summary" ["capacity", "counts", "__bool__"]) (et_Summary___init___0 : ∀ H : Hp, SqT K H (dflA "Summary" "__init__" 0 K) []) (xE : ExF K mg) (D__law_caught : Dfd K mg "_law_caught" s__law_caught) (D : Dfd K mg "_law_others_right" s__law_others_right) (tb__law_others_right : TabB base mg (He.cT K ("_law_others_right", none)).1 (He.cT K ("_law_others_right", none)).2) (hu__law_others_right : ∀ p ∈ tabs K, p.1 = (He.cT K ("_law_others_right", none)).2 → p.2 = "_law_others_right.<locals>.<lambda>")
    (h_Summary___init__ : HasM P w K mg base (L2.CX P w) 5 "Summary" "__init__" "Summary.__init__" s_Summary___init__ [.ref (dflA "Summary" "__init__" 0 K)] ["self", "capacity", "counts"] (sp_Summary___init__ K))
    (h_pack_summary : Has P w K mg base (L2.CX P w) 5 "pack_summary" s_pack_summary ["summary"] (sp_pack_summary K))
    (h__law_numbers : Has P w K mg base CX0 1 "_law_numbers" s__law_numbers ["_law_blob_here"] (sp__law_numbers K))
    (h_Summary___str__ : HasM P w K mg base CX0 2 "Summary" "__str__" "Summary.__str__" s_Summary___str__ [] ["self"] (sp_Summary___str__ K))
    (h_Summary___repr__ : HasMA P w K mg base CX0 2 "Summary" "__repr__" "Summary.__repr__" s_Summary___repr__ [] ["self"] (sp_Summary___repr__ K))
    (h__law_kind : HasP P w K mg base 1 "_law_kind" s__law_kind ["_law_e"] (sp__law_kind K))
    (h__law_fields : HasP P w K mg base 2 "_law_fields" s__law_fields ["_law_e"] (sp__law_fields K))
    (h_unpack_summary : Has P w K mg base (L2.CX P w) 8 "unpack_summary" s_unpack_summary ["data"] (sp_unpack_summary K)) : Has P w K mg base CX0 11 "_law_others_right" s__law_others_right ["_law_width", "_law_bag_here"] (sp__law_others_right K) := by
  refine D.hasL sc__law_others_right (fun vs H Q E h => ?_) (fun cdv A outer s H vs Q E hcd hr hg h => ?_)
  · obtain ⟨b, c, ps, rfl, _⟩ := h; rfl
  · obtain ⟨b, c, ps, rfl, hd, hv, hb, hT0, k⟩ := h
    have nd := sc__law_others_right.nd
    refine ⟨_, PSs.nox (pss_cons (ps_set (i := 2) nd rfl (Or.inl rfl) (pe_mk cl_Summary h_Summary___init__ bj_Summary___init___3 (hr.mono (by decide)) hg rfl (passE (E := fun _ _ _ => False) L2.takes0) (pa_cons (pv 0) (pa_cons (pv 1) pa_nil))))
      (pss_cons (ps_set (i := 3) nd rfl (Or.inl rfl) (pe_fn h_pack_summary pb_pack_summary (hr.mono (by decide)) hg rfl (passE (E := fun _ _ _ => False) L2.takes0) (pa_cons (pv 2) pa_nil)))
      (pss_cons (ps_set (i := 4) nd rfl (Or.inl rfl) (pe_lst (pa_cons pe_non (pa_cons pe_int (pa_cons pe_int (pa_cons pe_bl (pa_cons pe_str (pa_cons (pe_callTy (s_str K h_Summary___str__ bj_Summary___str___1 (hr.mono (by decide)) hg pass0) rfl fr.str_ (by decide +kernel) (pa_cons (pv 2) pa_nil)) (pa_cons (pe_tup pa_nil) (pa_cons (pe_lst pa_nil) (pa_cons pe_dnewK (pa_cons (pe_fn h__law_numbers pb__law_numbers (hr.mono (by decide)) hg rfl pass0 (pa_cons (pv 3) pa_nil)) (pa_cons (pv 1) (pa_cons (pe_lst (pa_cons (pv 2) pa_nil)) (pa_cons (pe_tup (pa_cons (pv 2) pa_nil)) pa_nil)))))))))))))))
      (pss_cons (ps_set (i := 4) nd rfl (Or.inl rfl) (pe_op op_cat (pv 4) (pe_lst (pa_cons (pe_callB call_reprBy rfl fr.repr_ (by decide +kernel) (pa_cons (pv 3) pa_nil)) pa_nil))))
      (pss_cons (ps_for PassesOwn.never rfl (k_iList K (pe_op op_cat (pv 4) (pe_lst (pa_cons (pv 2) (pa_cons (pe_lst (pa_cons (pv 3) pa_nil)) pa_nil))))) (pg_name (i := 5) nd rfl (Or.inr rfl))
        (pss_one (ps_if (pt_cmpR op_ne (pe_callB (k_reprY K h_Summary___repr__ bj_Summary___repr___1 (hr.mono (by decide)) hg hr.units) rfl fr.repr_ (by decide +kernel) (pa_cons (pe_caught (T := tabs K) (k := 8) D__law_caught sc__law_caught pb__law_caught (Or.inl rfl) rfl (fun cdv => caught_gives (hr.mono (by decide)) hg h__law_kind h__law_fields pb__law_kind pb__law_fields (xE.glo _ (by decide +kernel)) (xE.glo _ (by decide +kernel)) (xE.glo _ (by decide +kernel)) xE.exm rfl rfl rfl rfl rfl rfl) tb__law_others_right hcd (tm__law_others_right K) hu__law_others_right (by rfl) hg (hr.mono (by decide)) (lamS_by (sc := defScope s__law_others_right) (by decide +kernel)) rfl (fun _ _ _ _ _ => rfl) (fun A outer s H E f c' hgL hrL => (pe_fn h_unpack_summary pb_unpack_summary (hrL.mono (by decide)) hgL rfl (passE takesL) (pa_cons (pv 5) pa_nil)))) pa_nil)) (pe_callB (k_reprY K h_Summary___repr__ bj_Summary___repr___1 (hr.mono (by decide)) hg hr.units) rfl fr.repr_ (by decide +kernel) (pa_cons (pe_lst (pa_cons pe_str (pa_cons (pv 5) pa_nil))) pa_nil)) (nomark _)) (pss_one (ps_ret pe_bl)) pss_nil)))
      (pss_cons (ps_for PassesOwn.never rfl (k_iList K (pe_op op_cat (pv 4) (pe_lst (pa_cons (pv 3) (pa_cons (pe_tup (pa_cons (pv 0) (pa_cons (pv 1) pa_nil))) pa_nil))))) (pg_name (i := 5) nd rfl (Or.inr rfl))
        (pss_cons (ps_if (pt_cmpR op_ne (pe_callB (k_reprY K h_Summary___repr__ bj_Summary___repr___1 (hr.mono (by decide)) hg hr.units) rfl fr.repr_ (by decide +kernel) (pa_cons (pe_caught (T := tabs K) (k := 5) D__law_caught sc__law_caught pb__law_caught (Or.inl rfl) rfl (fun cdv => caught_gives (hr.mono (by decide)) hg h__law_kind h__law_fields pb__law_kind pb__law_fields (xE.glo _ (by decide +kernel)) (xE.glo _ (by decide +kernel)) (xE.glo _ (by decide +kernel)) xE.exm rfl rfl rfl rfl rfl rfl) tb__law_others_right hcd (tm__law_others_right K) hu__law_others_right (by rfl) hg (hr.mono (by decide)) (lamS_by (sc := defScope s__law_others_right) (by decide +kernel)) rfl (fun _ _ _ _ _ => rfl) (fun A outer s H E f c' hgL hrL => (pe_fn h_pack_summary pb_pack_summary (hrL.mono (by decide)) hgL rfl (passE takesL) (pa_cons (pv 5) pa_nil)))) pa_nil)) (pe_callB (k_reprY K h_Summary___repr__ bj_Summary___repr___1 (hr.mono (by decide)) hg hr.units) rfl fr.repr_ (by decide +kernel) (pa_cons (pe_lst (pa_cons pe_str (pa_cons (pv 5) pa_nil))) pa_nil)) (nomark _)) (pss_one (ps_ret pe_bl)) pss_nil)
      (pss_one (ps_if (pt_cmpR op_ne (pe_callB (k_reprY K h_Summary___repr__ bj_Summary___repr___1 (hr.mono (by decide)) hg hr.units) rfl fr.repr_ (by decide +kernel) (pa_cons (pe_caught (T := tabs K) (k := 5) D__law_caught sc__law_caught pb__law_caught (Or.inl rfl) rfl (fun cdv => caught_gives (hr.mono (by decide)) hg h__law_kind h__law_fields pb__law_kind pb__law_fields (xE.glo _ (by decide +kernel)) (xE.glo _ (by decide +kernel)) (xE.glo _ (by decide +kernel)) xE.exm rfl rfl rfl rfl rfl rfl) tb__law_others_right hcd (tm__law_others_right K) hu__law_others_right (by rfl) hg (hr.mono (by decide)) (lamS_by (sc := defScope s__law_others_right) (by decide +kernel)) rfl (fun _ _ _ _ _ => rfl) (fun A outer s H E f c' hgL hrL => (pe_fnK0 h_pack_summary kb_pack_summary_0_summary kb_pack_summary_0_summary_r (hrL.mono (by decide)) hgL rfl (passE takesL) (pk_cons (pv 5) pk_nil)))) pa_nil)) (pe_callB (k_reprY K h_Summary___repr__ bj_Summary___repr___1 (hr.mono (by decide)) hg hr.units) rfl fr.repr_ (by decide +kernel) (pa_cons (pe_lst (pa_cons pe_str (pa_cons (pv 5) pa_nil))) pa_nil)) (nomark _)) (pss_one (ps_ret pe_bl)) pss_nil))))
      (pss_one (ps_ret pe_bl)))))))), ?_⟩
    try dsimp only [cxOf]
    have est : ∀ a0 a1 : V, L2.start N__law_others_right [a0, a1] = [some a0, some a1, none, none, none, none] := fun _ _ => rfl
    simp only [est]
    clear est
    have hRm : ∀ {H H' : Hp}, Same H H' → ∀ v t, OwnY K "Summary" (sp_Summary___repr__ K) [0] H v t → OwnY K "Summary" (sp_Summary___repr__ K) [0] H' v t := fun s => ownY_same s
    have hb2 : ∀ p ∈ ps, p.2 < 256 ^ 200 := fun p hp => Int.lt_of_le_of_lt (Int.le_trans (hb p hp) (by decide)) big100
    have hbs : BagS ps := hv.ok.s fun p hp => Int.le_trans (hb p hp) (by decide)
    have hkl := packK_len2 hv hb
    have h8 := pack_B8 hv hb2
    tm_at "vp"
    refine w_mkSumV (fun _ => rfl) hd hv fun v H1 s1 ho => ?_
    tm_at "vp"
    refine ⟨v, rfl, .inl ⟨c, ps, ho, hv, hb2, fun H2 s2 => ?_⟩⟩
    tm_at "vp"
    refine w_strSum (sum_same s2 ho) ?_
    refine ⟨v, c, ps, rfl, sum_same s2 ho, hv, hbs, fun H3 s3 => ⟨_, rfl, ?_⟩⟩
    tm_at "vp"
    rename_i e0 he0 e1 he1 e2 he2
    have sg0 : Same H3 (upd (upd (upd H3 e0 (HO.tup [])) e1 (HO.lst [])) e2 (HO.dK [])) := Same.trans (Same.trans (same_new he0) (same_new he1)) (same_new he2)
    have fe0 : (upd (upd (upd H3 e0 (HO.tup [])) e1 (HO.lst [])) e2 (HO.dK [])) e0 = some (HO.tup []) := (hp_new (hp_new upd_same he1) he2)
    have fe1 : (upd (upd (upd H3 e0 (HO.tup [])) e1 (HO.lst [])) e2 (HO.dK [])) e1 = some (HO.lst []) := (hp_new upd_same he2)
    have fe2 : (upd (upd (upd H3 e0 (HO.tup [])) e1 (HO.lst [])) e2 (HO.dK [])) e2 = some (HO.dK []) := upd_same
    generalize (upd (upd (upd H3 e0 (HO.tup [])) e1 (HO.lst [])) e2 (HO.dK [])) = G0 at sg0 fe0 fe1 fe2 ⊢
    refine ⟨packK c ps, rfl, h8, by omega, fun e3 he3 => ?_⟩
    have se3 := same_new he3 (u := HO.lst ((packK c ps).map V.int))
    have fe3 := @upd_same G0 e3 (HO.lst ((packK c ps).map V.int))
    replace fe0 := se3 _ _ fe0
    replace fe1 := se3 _ _ fe1
    replace fe2 := se3 _ _ fe2
    generalize upd G0 e3 (HO.lst ((packK c ps).map V.int)) = G1 at *
    tm_at "vp"
    rename_i e4 he4 e5 he5 L hL
    have sg2 : Same G1 (upd (upd (upd G1 e4 (HO.lst [v])) e5 (HO.tup [v])) L (HO.lst [V.non, .int 0, .int 7, .bl true, .str "", .str (cText ps), .ref e0, .ref e1, .ref e2, .ref e3, b, .ref e4, .ref e5])) := Same.trans (Same.trans (same_new he4) (same_new he5)) (same_new hL)
    have fe4 : (upd (upd (upd G1 e4 (HO.lst [v])) e5 (HO.tup [v])) L (HO.lst [V.non, .int 0, .int 7, .bl true, .str "", .str (cText ps), .ref e0, .ref e1, .ref e2, .ref e3, b, .ref e4, .ref e5])) e4 = some (HO.lst [v]) := (hp_new (hp_new upd_same he5) hL)
    have fe5 : (upd (upd (upd G1 e4 (HO.lst [v])) e5 (HO.tup [v])) L (HO.lst [V.non, .int 0, .int 7, .bl true, .str "", .str (cText ps), .ref e0, .ref e1, .ref e2, .ref e3, b, .ref e4, .ref e5])) e5 = some (HO.tup [v]) := (hp_new upd_same hL)
    have fL : (upd (upd (upd G1 e4 (HO.lst [v])) e5 (HO.tup [v])) L (HO.lst [V.non, .int 0, .int 7, .bl true, .str "", .str (cText ps), .ref e0, .ref e1, .ref e2, .ref e3, b, .ref e4, .ref e5])) L = some (HO.lst [V.non, .int 0, .int 7, .bl true, .str "", .str (cText ps), .ref e0, .ref e1, .ref e2, .ref e3, b, .ref e4, .ref e5]) := upd_same
    generalize (upd (upd (upd G1 e4 (HO.lst [v])) e5 (HO.tup [v])) L (HO.lst [V.non, .int 0, .int 7, .bl true, .str "", .str (cText ps), .ref e0, .ref e1, .ref e2, .ref e3, b, .ref e4, .ref e5])) = G2 at sg2 fe4 fe5 fL ⊢
    refine ⟨packK c ps, rfl, by omega, ?_⟩
    tm_at "vp"
    rename_i M hM
    refine ⟨L, M, _, _, rfl, rfl, hp_new fL hM, upd_same, by rw [sizeLine_eq]; show 13 + 1 ≤ _; decide, fun R hR => ?_⟩
    have sM := (same_new hM (u := HO.lst [V.str (litB (packK c ps))])).trans (same_new hR (u := HO.lst ([V.non, .int 0, .int 7, .bl true, .str "", .str (cText ps), .ref e0, .ref e1, .ref e2, .ref e3, b, .ref e4, .ref e5] ++ [V.str (litB (packK c ps))])))
    have fR := @upd_same (upd G2 M (HO.lst [V.str (litB (packK c ps))])) R (HO.lst ([V.non, .int 0, .int 7, .bl true, .str "", .str (cText ps), .ref e0, .ref e1, .ref e2, .ref e3, b, .ref e4, .ref e5] ++ [V.str (litB (packK c ps))]))
    generalize upd (upd G2 M (HO.lst [V.str (litB (packK c ps))])) R (HO.lst ([V.non, .int 0, .int 7, .bl true, .str "", .str (cText ps), .ref e0, .ref e1, .ref e2, .ref e3, b, .ref e4, .ref e5] ++ [V.str (litB (packK c ps))])) = G3 at *
    have sg3 := sg2.trans sM
    have ho3 := sum_same (s2.trans (s3.trans (sg0.trans (se3.trans sg3)))) ho
    have s03 := s1.trans (s2.trans (s3.trans (sg0.trans (se3.trans sg3))))
    have hd3 := dp_same s03 hd
    have T3 := hT0.ext s03
    have l1 : Str.length ("Summary(" : Str) = 8 := by decide +kernel
    have c1 := hv.c1
    have c8 := hv.c8
    have hpl : ps.length ≤ 8 := by have := hv.len; omega
    obtain ⟨TT, hTT, hown⟩ : ∃ TT : Str, TT.length ≤ 800000 ∧ ∀ G, ExtN G3 G → OwnY K "Summary" (sp_Summary___repr__ K) [0] G v TT := by
      have l2 : Str.length (", '" : Str) = 3 := by decide +kernel
      have l3 : Str.length ("')" : Str) = 2 := by decide +kernel
      have hi := intS_len (i := c) (by omega) (Int.le_trans c8 (by decide))
      have hc := cText_len hbs
      refine ⟨("Summary(" : Str) ++ intS c ++ (", '" : Str) ++ cText ps ++ ("')" : Str), by rw [str_app_len, str_app_len, str_app_len, str_app_len]; omega, fun G sx => .inl ?_⟩
      obtain ⟨na, nx, bv, rfl, h1, h2⟩ := sum_x sx ho3
      exact ⟨na, nx, _, rfl, h1, fun H0 s0 => ⟨.ref na, c, ps, rfl, sum_x s0 ⟨na, nx, bv, rfl, h1, h2⟩, hv, hbs, fun H'' s' => ⟨rfl, s'⟩⟩⟩
    have hown3 := hown _ (ExtN.refl _)
    have hbase : ∀ y ∈ [V.non, .int 0, .int 7, .bl true, .str "", .str (cText ps), .ref e0, .ref e1, .ref e2, .ref e3, b, .ref e4, .ref e5] ++ [V.str (litB (packK c ps))], BaseR K (OwnY K "Summary" (sp_Summary___repr__ K) [0]) G3 y := fun y hy => by
      have f0 := sg3 _ _ fe0
      have f1 := sg3 _ _ fe1
      have f2 := sg3 _ _ fe2
      have f3 := sg3 _ _ fe3
      have f4 := sM _ _ fe4
      have f5 := sM _ _ fe5
      have ht := cText_ok (ps := ps) fun p hp => ⟨hv.ok.nam p hp, by have := hv.ok.pos p hp; omega, Int.le_trans (hb p hp) (by decide)⟩
      rcases List.mem_append.mp hy with hy | hy
      rotate_left
      · rw [List.mem_singleton.mp hy]
        exact baseR_dx (.str _) (smW_txt (lit_ok (n := 1000) (by omega)) (by decide))
      simp only [List.mem_cons, List.not_mem_nil, or_false] at hy
      rcases hy with rfl | rfl | rfl | rfl | rfl | rfl | rfl | rfl | rfl | rfl | rfl | rfl | rfl
      · exact baseR_dx .non (by decide +kernel)
      · exact baseR_dx (.int _) (by decide +kernel)
      · exact baseR_dx (.int _) (by decide +kernel)
      · exact baseR_dx (.bl _) (by decide +kernel)
      · exact baseR_dx (.str _) (by decide +kernel)
      · refine baseR_dx (.str _) ?_
        have h1 : okX (.str (cText ps)) = true := List.all_eq_true.mpr fun x hx => decide_eq_true (Nat.lt_of_lt_of_le (ht.asc x hx) (by decide))
        have h2 : decide (rbX (.str (cText ps)) ≤ 1000000) = true := decide_eq_true (by have := ht.len; show 10 * (cText ps).length + 2 ≤ _; omega)
        show (okX (.str (cText ps)) && (decide (rbX (.str (cText ps)) ≤ 1000000) && _)) = true
        rw [h1, h2]; rfl
      · exact baseR_dx (.tup (SqT.of f0) .nil) (by decide +kernel)
      · exact baseR_dx (.lst (SqL.of f1) .nil) (by decide +kernel)
      · exact ⟨.inr ⟨_, _, .dct f2, by decide, by decide +kernel⟩, noSum_dx (.dct f2)⟩
      · exact baseR_dx (d := intsD (packK c ps)) (.lst (SqL.of f3) ints_dxs) (smW_ints h8 (by omega))
      · exact baseR_dx (dp_dx hd3) (smW_bag hbs (by omega))
      · exact ⟨shY_lst1 f4 hown3 hTT, noSum_lst f4⟩
      · exact ⟨shY_tup1 f5 hown3 hTT, noSum_tup f5⟩
    have hrl : ([V.non, .int 0, .int 7, .bl true, .str "", .str (cText ps), .ref e0, .ref e1, .ref e2, .ref e3, b, .ref e4, .ref e5] ++ [V.str (litB (packK c ps))]).length = 14 := rfl
    generalize [V.non, .int 0, .int 7, .bl true, .str "", .str (cText ps), .ref e0, .ref e1, .ref e2, .ref e3, b, .ref e4, .ref e5] ++ [V.str (litB (packK c ps))] = rows at *
    clear fe0 fe1 fe2 fe3 fe4 fe5 fL hR hM sM sg3 sg2 sg0 se3 he3 he4 he5 hL s3 s2 s1 ho hd hT0
    tm_at "vp"
    rename_i e8 he8 e9 he9
    refine ⟨R, e9, _, _, rfl, rfl, hp_new (hp_new fR he8) he9, upd_same, by rw [hrl, sizeLine_eq]; show 14 + 2 ≤ _; decide, fun R2 hR2 => ?_⟩
    have s35 := (same_new he8 (u := HO.lst [V.byt (byteArr (packK c ps))])).trans ((same_new he9 (u := HO.lst [v, .ref e8])).trans (same_new hR2 (u := HO.lst (rows ++ [v, .ref e8]))))
    have f8 := hp_new (hp_new (@upd_same G3 e8 (HO.lst [V.byt (byteArr (packK c ps))])) he9 (u := HO.lst [v, .ref e8])) hR2 (u := HO.lst (rows ++ [v, .ref e8]))
    have fR2 := @upd_same (upd (upd G3 e8 (HO.lst [V.byt (byteArr (packK c ps))])) e9 (HO.lst [v, .ref e8])) R2 (HO.lst (rows ++ [v, .ref e8]))
    generalize upd (upd (upd G3 e8 (HO.lst [V.byt (byteArr (packK c ps))])) e9 (HO.lst [v, .ref e8])) R2 (HO.lst (rows ++ [v, .ref e8])) = G5 at *
    have x35 := ExtN.of s35
    have hall1 : ∀ y ∈ rows ++ [v, .ref e8], ShY K (OwnY K "Summary" (sp_Summary___repr__ K) [0]) G5 y ∧ ∀ H', ExtN G5 H' → NoByt K H' y := fun y hy => by
      rcases List.mem_append.mp hy with hy | hy
      · obtain ⟨h1, h2⟩ := baseR_x x35 (ownY_x x35) (hbase y hy)
        exact ⟨h1, fun H' x' => (h2.x x').byt⟩
      simp only [List.mem_cons, List.not_mem_nil, or_false] at hy
      rcases hy with rfl | rfl
      · exact ⟨shY_own (hown _ x35) hTT, fun H' x' => sumO_byt cl_Summary (sum_x (x35.trans x') ho3)⟩
      · exact ⟨shY_lst1 f8 (.inr ⟨_, rfl, by omega, rfl⟩) (by have := lit_len (packK c ps); omega), fun H' x' => ((noSum_lst f8).x x').byt⟩
    have T5 := T3.ext s35
    have fR5 := s35 _ _ fR
    clear f8 he8 he9 hR2
    have hl16 : (rows ++ [v, .ref e8]).length = 16 := by rw [List.length_append, hrl]; rfl
    generalize rows ++ [v, .ref e8] = rows1 at *
    simp only [List.set_cons_zero, List.set_cons_succ]
    refine w_onL (SqL.of fR2) ?_
    refine for_go (walk_list (xs := rows1)) (fun i σ H' => ∃ u5, σ = [some (.int c), some b, some v, some (.byt (byteArr (packK c ps))), some (.ref R), u5] ∧ ExtN G5 H' ∧ Tabs (tabs K) H') ⟨_, rfl, ExtN.refl _, T5⟩ (fun i σ H' _ ⟨_, _, x, _⟩ => SqL.of (lst_x x fR2)) ?_ ?_
    · rintro i y σ Ha Hb hi ⟨u5, rfl, xb, Tb⟩ ⟨rfl, hy⟩
      obtain ⟨hsh, hnb⟩ := hall1 y (List.mem_of_getElem? hy)
      refine w_gname ?_
      tm_at "vp"
      refine w_caughtR "text" (fun y' _ => y' = y) Tb (fun l1 y1 H5 x5 T5' hl1 hy1 => ?_) (fun Hq xq Tq Q' hQ => ?_)
      rotate_left
      · tm_at "vp"
        exact ⟨y, rfl, .inr ⟨hnb _ (xb.trans xq), fun dd H' s hdd => w_held (C := "InvalidText") (f := "text") (wd := "text") (by decide +kernel) hdd fun l Ht st hlt => hQ l _ Ht (xq.trans (ExtN.of (s.trans st))) (Tq.ext (s.trans st)) hlt rfl⟩⟩
      rw [hy1] at hl1
      have x5b := xb.trans x5
      obtain ⟨T, hT⟩ := due_reprY (wd := "text") hRm (by decide +kernel) (shY_x x5b (ownY_x x5b) hsh)
      tm_at "vp"
      refine hT _ (Same.refl _) l1 _ hl1 fun H6 s6 => ?_
      tm_at "vp"
      rename_i M hM
      refine hT _ (s6.trans (same_new hM)) M _ upd_same fun H7 s7 => ?_
      have s57 := s6.trans ((same_new hM).trans s7)
      tm_at "vp"
      rw [decide_eq_true rfl]
      tm_at "vp"
      exact ⟨_, rfl, x5b.trans (ExtN.of s57), T5'.ext s57⟩
    rintro σ H6 ⟨u5, rfl, x6, T6⟩
    have x36 := x35.trans x6
    have fR6 := lst_x x6 fR5
    clear hall1 fR5 T5 fR2 hl16 s35
    tm_at "vp"
    rename_i e10 he10 e11 he11
    refine ⟨R, e11, _, _, rfl, rfl, hp_new (hp_new fR6 he10) he11, upd_same, by rw [hrl, sizeLine_eq]; show 14 + 2 ≤ _; decide, fun R3 hR3 => ?_⟩
    have s68 := (same_new he10 (u := HO.tup [V.int c, b])).trans ((same_new he11 (u := HO.lst [V.byt (byteArr (packK c ps)), .ref e10])).trans (same_new hR3 (u := HO.lst (rows ++ [V.byt (byteArr (packK c ps)), .ref e10]))))
    have f10 := hp_new (hp_new (@upd_same H6 e10 (HO.tup [V.int c, b])) he11 (u := HO.lst [V.byt (byteArr (packK c ps)), .ref e10])) hR3 (u := HO.lst (rows ++ [V.byt (byteArr (packK c ps)), .ref e10]))
    have fR3 := @upd_same (upd (upd H6 e10 (HO.tup [V.int c, b])) e11 (HO.lst [V.byt (byteArr (packK c ps)), .ref e10])) R3 (HO.lst (rows ++ [V.byt (byteArr (packK c ps)), .ref e10]))
    generalize upd (upd (upd H6 e10 (HO.tup [V.int c, b])) e11 (HO.lst [V.byt (byteArr (packK c ps)), .ref e10])) R3 (HO.lst (rows ++ [V.byt (byteArr (packK c ps)), .ref e10])) = H8 at *
    have x38 := x36.trans (ExtN.of s68)
    have T8 := T6.ext s68
    have hall2 : ∀ y ∈ rows ++ [V.byt (byteArr (packK c ps)), .ref e10], ShY K (OwnY K "Summary" (sp_Summary___repr__ K) [0]) H8 y ∧ NoSumY K H8 y := fun y hy => by
      rcases List.mem_append.mp hy with hy | hy
      · obtain ⟨h1, h2⟩ := baseR_x x38 (ownY_x x38) (hbase y hy)
        exact ⟨h1, .inl h2⟩
      simp only [List.mem_cons, List.not_mem_nil, or_false] at hy
      rcases hy with rfl | rfl
      · exact ⟨shY_byt (by omega), .inr ⟨_, rfl⟩⟩
      · have hdx : Dx K H8 (.ref e10) (.tuple [.int c, bagD ps]) := .tup (SqT.of f10) (.cons (.int _) (.cons (dx_x x38 (dp_dx hd3)) .nil))
        exact ⟨.inl ⟨_, hdx, smW_cap (by omega) (by omega) hbs (by omega)⟩, .inl (noSum_dx hdx)⟩
    clear f10 he10 he11 hR3
    generalize rows ++ [V.byt (byteArr (packK c ps)), .ref e10] = rows2 at *
    simp only [List.set_cons_zero, List.set_cons_succ]
    refine w_onL (SqL.of fR3) ?_
    refine for_go (walk_list (xs := rows2)) (fun i σ H' => ∃ u5, σ = [some (.int c), some b, some v, some (.byt (byteArr (packK c ps))), some (.ref R), u5] ∧ ExtN H8 H' ∧ Tabs (tabs K) H') ⟨_, rfl, ExtN.refl _, T8⟩ (fun i σ H' _ ⟨_, _, x, _⟩ => SqL.of (lst_x x fR3)) ?_ ?_
    rotate_left
    · rintro σ H9 ⟨u5, rfl, x9, T9⟩
      tm_at "vp"
      exact k _ (((ExtN.of s03).trans x38).trans x9) T9
    rintro i y σ Ha Hb hi ⟨u5, rfl, xb, Tb⟩ ⟨rfl, hy⟩
    obtain ⟨hsh, hns⟩ := hall2 y (List.mem_of_getElem? hy)
    refine w_gname ?_
    have told : ∀ (Hq H0 : Hp), ExtN Hb Hq → ExtN H0 Hq → Tabs (tabs K) Hq → ∀ Q' : VK, (∀ l y' H', ExtN H0 H' → Tabs (tabs K) H' → H' l = some (.lst [.str "notsummary", y']) → y' = y → Q' (.ref l) H') → sp_pack_summary K [y] Hq (fun v H2 => LstC [.str "returned", v] H2 Q') (fun cls d H' => CaughtC K cls d H' Q') := fun Hq H0 xb' xq Tq Q' hQ =>
      ⟨y, rfl, .inr ⟨hns.x (xb.trans xb'), fun dd H' s hdd => w_held (C := "NotASummary") (f := "value") (wd := "notsummary") (by decide +kernel) hdd fun l Ht st hlt => hQ l _ Ht (xq.trans (ExtN.of (s.trans st))) (Tq.ext (s.trans st)) hlt rfl⟩⟩
    tm_at "vp"
    refine w_caughtR "notsummary" (fun y' _ => y' = y) Tb (fun l1 y1 H5 x5 T5' hl1 hy1 => ?_) (fun Hq xq Tq Q' hQ => ?_)
    rotate_left
    · tm_at "vp"
      exact told Hq _ xq xq Tq Q' hQ
    rw [hy1] at hl1
    have x5b := xb.trans x5
    obtain ⟨T, hT⟩ := due_reprY (wd := "notsummary") hRm (by decide +kernel) (shY_x x5b (ownY_x x5b) hsh)
    tm_at "vp"
    refine hT _ (Same.refl _) l1 _ hl1 fun H6' s6 => ?_
    tm_at "vp"
    rename_i M1 hM1
    refine hT _ (s6.trans (same_new hM1)) M1 _ upd_same fun H7 s7 => ?_
    have s57 := s6.trans ((same_new hM1).trans s7)
    have x7 := x5.trans (ExtN.of s57)
    have T7 := T5'.ext s57
    clear s57 s7 s6 hM1 hT hl1
    tm_at "vp"
    rw [decide_eq_true rfl]
    tm_at "vp"
    refine w_caughtR "notsummary" (fun y' _ => y' = y) T7 (fun l2 y2 H9 x9 T9 hl2 hy2 => ?_) (fun Hq xq Tq Q' hQ => ?_)
    rotate_left
    · tm_at "vp"
      exact told Hq _ (x7.trans xq) xq Tq Q' hQ
    rw [hy2] at hl2
    have x9b := xb.trans (x7.trans x9)
    obtain ⟨T', hT'⟩ := due_reprY (wd := "notsummary") hRm (by decide +kernel) (shY_x x9b (ownY_x x9b) hsh)
    tm_at "vp"
    refine hT' _ (Same.refl _) l2 _ hl2 fun HA sA => ?_
    tm_at "vp"
    rename_i M2 hM2
    refine hT' _ (sA.trans (same_new hM2)) M2 _ upd_same fun HB sB => ?_
    have s9B := sA.trans ((same_new hM2).trans sB)
    tm_at "vp"
    rw [decide_eq_true rfl]
    tm_at "vp"
    exact ⟨_, rfl, x9b.trans (ExtN.of s9B), T9.ext s9B⟩
theorem ok__law_right {P : Program} {w : World} {K : PySem.W.Frag} {mg : Str → Option Value} {base : Heap} (fr : Fre mg) (cl_Summary : ClsF K mg "Summary" ["capacity", "counts", "__bool__"]) (et_Summary___init___0 : ∀ H : Hp, SqT K H (dflA "Summary" "__init__" 0 K) []) (D : Dfd K mg "_law_right" s__law_right)
    (h__law_draw : Has P w K mg base CX0 1 "_law_draw" s__law_draw ["_law_pool_here", "_law_many"] (sp__law_draw K))
    (h__law_bag : Has P w K mg base CX0 3 "_law_bag" s__law_bag ["_law_pool_here", "_law_words_here", "_law_most"] (sp__law_bag K))
    (h__law_words : Has P w K mg base CX0 2 "_law_words" s__law_words ["_law_pool_here", "_law_many"] (sp__law_words K))
    (h__law_numbers : Has P w K mg base CX0 1 "_law_numbers" s__law_numbers ["_law_blob_here"] (sp__law_numbers K))
    (h_pack_summary : Has P w K mg base (L2.CX P w) 5 "pack_summary" s_pack_summary ["summary"] (sp_pack_summary K))
    (h_Summary___init__ : HasM P w K mg base (L2.CX P w) 5 "Summary" "__init__" "Summary.__init__" s_Summary___init__ [.ref (dflA "Summary" "__init__" 0 K)] ["self", "capacity", "counts"] (sp_Summary___init__ K))
    (h__law_one_right : Has P w K mg base CX0 11 "_law_one_right" s__law_one_right ["_law_pieces_here", "_law_numbers_here"] (sp__law_one_right K))
    (h__law_changed : Has P w K mg base CX0 2 "_law_changed" s__law_changed ["_law_pool_here", "_law_numbers_here"] (sp__law_changed K))
    (h__law_others_right : Has P w K mg base CX0 11 "_law_others_right" s__law_others_right ["_law_width", "_law_bag_here"] (sp__law_others_right K)) : Has P w K mg base CX0 12 "_law_right" s__law_right ["_law_pool_here", "_law_pieces_here"] (sp__law_right K) := by
  refine D.has sc__law_right (fun vs H Q E h => ?_) (fun cdv A outer s H vs Q E hr hg h => ?_)
  · obtain ⟨p, q, rfl, _⟩ := h; rfl
  · obtain ⟨p, q, rfl, hp, hq, hT, k⟩ := h
    have nd := sc__law_right.nd
    refine ⟨_, PSs.nox (pss_cons (ps_set (i := 2) nd rfl (Or.inl rfl) (pe_op op_add pe_int (pe_fn h__law_draw pb__law_draw (hr.mono (by decide)) hg rfl pass0 (pa_cons (pv 0) (pa_cons pe_int pa_nil)))))
      (pss_cons (ps_set (i := 3) nd rfl (Or.inl rfl) (pe_slice (k_slT K) (pe_fn h__law_bag pb__law_bag (hr.mono (by decide)) hg rfl pass0 (pa_cons (pv 0) (pa_cons (pe_fn h__law_words pb__law_words (hr.mono (by decide)) hg rfl pass0 (pa_cons (pv 0) (pa_cons pe_int pa_nil))) (pa_cons (pe_ix (k_ixL K) (pe_lst (pa_cons pe_int (pa_cons pe_int pa_nil))) (pe_fn h__law_draw pb__law_draw (hr.mono (by decide)) hg rfl pass0 (pa_cons (pv 0) (pa_cons pe_int pa_nil))) (fun _ _ => rfl)) pa_nil)))) po_none (po_some (pv 2))))
      (pss_cons (ps_set (i := 4) nd rfl (Or.inl rfl) (pe_fn h__law_numbers pb__law_numbers (hr.mono (by decide)) hg rfl pass0 (pa_cons (pe_fn h_pack_summary pb_pack_summary (hr.mono (by decide)) hg rfl (passE (E := fun _ _ _ => False) L2.takes0) (pa_cons (pe_mk cl_Summary h_Summary___init__ bj_Summary___init___3 (hr.mono (by decide)) hg rfl (passE (E := fun _ _ _ => False) L2.takes0) (pa_cons (pv 2) (pa_cons (pv 3) pa_nil))) pa_nil)) pa_nil)))
      (pss_cons (ps_for PassesOwn.never rfl (pi_range1 rfl fr.range_ (pa_cons pe_int pa_nil)) (pg_name (i := 5) nd rfl (Or.inl rfl))
        (pss_one (ps_if (PW.pt (pw_or (pt_not (pt_val (pe_fn h__law_one_right pb__law_one_right (hr.mono (by decide)) hg rfl pass0 (pa_cons (pv 1) (pa_cons (pe_fn h__law_changed pb__law_changed (hr.mono (by decide)) hg rfl pass0 (pa_cons (pv 0) (pa_cons (pv 4) pa_nil))) pa_nil))))) (pw_or1 (pt_not (pt_val (pe_fn h__law_one_right pb__law_one_right (hr.mono (by decide)) hg rfl pass0 (pa_cons (pv 1) (pa_cons (pv 4) pa_nil)))))))) (pss_one (ps_ret pe_bl)) pss_nil)))
      (pss_one (ps_ret (pe_fn h__law_others_right pb__law_others_right (hr.mono (by decide)) hg rfl pass0 (pa_cons (pv 2) (pa_cons (pv 3) pa_nil))))))))), ?_⟩
    try dsimp only [cxOf]
    tm_at "wp"
    refine ⟨p, 8, rfl, hp, by omega, by omega, fun r H1 r0 r1 s1 => ?_⟩
    have hp1 := s1 _ _ hp
    tm_at "wp"
    refine ⟨p, 12, rfl, hp1, by omega, by omega, fun a1 ws H2 ha1 s2 hs2 hw2 => ?_⟩
    have hp2 := s2 _ _ hp1
    tm_at "wp"
    rename_i L hL
    refine ⟨p, 2, rfl, hp_new hp2 hL, by omega, by omega, fun w H3 w0 w1 s3 => ?_⟩
    have hL3 := s3 _ _ (@upd_same H2 L (HO.lst [V.int 0, .int 300]))
    have sL3 := (same_new hL (u := HO.lst [V.int 0, .int 300])).trans s3
    obtain ⟨m, hm, m0, m1⟩ : ∃ m : Int, ([V.int 0, .int 300] : List V)[w.toNat]? = some (.int m) ∧ 0 ≤ m ∧ m ≤ 300 := by
      have h5 : w.toNat < 2 := by omega
      match w.toNat, h5 with
      | 0, _ => exact ⟨0, rfl, by decide, by decide⟩
      | 1, _ => exact ⟨300, rfl, by decide, by decide⟩
    refine w_ixL (SqL.of hL3) (v := .int m) (at_of' (j := w.toNat) (by omega) hm) ?_
    tm_at "wp"
    refine ⟨p, a1, ws, m, 12, rfl, sL3 _ _ hp2, sL3.seq (SqL.of hs2), hw2, by omega, m0, Int.le_trans m1 (by decide), fun v ps H4 s4 hd4 hB4 hm4 hl4 h304 _ => ?_⟩
    tm_at "wp"
    refine w_slD hd4 fun v6 H6 s6 hd6 => ?_
    have er : (1 : Int) + r = ((1 + r.toNat : Nat) : Int) := by omega
    rw [er, cutL_hi, ← List.map_take] at hd6
    have hd6 : Dp K H6 v6 (bagD (ps.take (1 + r.toNat))) := hd6
    have hv : SumV (1 + r) (ps.take (1 + r.toNat)) := ⟨by omega, by omega, hB4.takeX _, by rw [List.length_take]; omega⟩
    have hb : ∀ q ∈ ps.take (1 + r.toNat), q.2 ≤ 10 ^ 30 := fun q hq => h304 q (List.mem_of_mem_take hq)
    generalize ps.take (1 + r.toNat) = qs at *
    have hb2 : ∀ p ∈ qs, p.2 < 256 ^ 200 := fun p hp => Int.lt_of_le_of_lt (Int.le_trans (hb p hp) (by decide)) big100
    have s06 := s1.trans (s2.trans (sL3.trans (s4.trans s6)))
    have hkl := packK_len2 hv hb
    have h8 := pack_B8 hv hb2
    tm_at "wp"
    refine w_mkSumV (fun _ => rfl) hd6 hv fun v7 H7 s7 ho7 => ?_
    tm_at "wp"
    refine ⟨v7, rfl, .inl ⟨_, qs, ho7, hv, hb2, fun H8 s8 => ?_⟩⟩
    tm_at "wp"
    refine ⟨packK (1 + r) qs, rfl, h8, by omega, fun N hN => ?_⟩
    have s09 := s06.trans (s7.trans (s8.trans (same_new hN (u := HO.lst ((packK (1 + r) qs).map V.int)))))
    have hN9 := @upd_same H8 N (HO.lst ((packK (1 + r) qs).map V.int))
    have hd9 := dp_same (s7.trans (s8.trans (same_new hN (u := HO.lst ((packK (1 + r) qs).map V.int))))) hd6
    generalize upd H8 N (HO.lst ((packK (1 + r) qs).map V.int)) = H9 at *
    have hp9 := s09 _ _ hp
    have hq9 := s09.seq hq
    have T9 := hT.ext s09
    clear s06 s7 s8 hd6 hd4 s6 s4 sL3 s3 hL3 hL hp2 hs2 hw2 s2 ha1 hp1 s1 hN ho7
    tm_at "wp"
    refine w_onR1 ⟨by decide, by decide⟩ ?_
    refine for_go walk_range (fun i σ H' => ∃ u5, σ = [some (.ref p), some (.ref q), some (.int (1 + r)), some v6, some (.ref N), u5] ∧ ExtN H9 H' ∧ Tabs (tabs K) H') ⟨none, rfl, ExtN.refl _, T9⟩ (fun _ _ _ _ _ => trivial) ?_ ?_
    rotate_left
    · rintro σ HA ⟨u5, rfl, xA, TA⟩
      tm_at "wp"
      refine ⟨v6, _, qs, rfl, dx_bag (dx_x xA (dp_dx hd9)), hv, hb, TA, fun HB xB TB => ?_⟩
      exact k _ ((ExtN.of s09).trans (xA.trans xB)) TB
    rintro i y σ HA HA' hi ⟨u5, rfl, xA, TA⟩ ⟨rfl, rfl⟩
    refine w_gname ?_
    tm_at "wp"
    refine ⟨p, N, _, rfl, pool_x xA hp9, SqL.of (lst_x xA hN9), h8, by omega, fun a' ns' HB sB hB hB8 hBl => ?_⟩
    have xB := xA.trans (ExtN.of sB)
    tm_at "wp"
    refine ⟨q, a', ns', rfl, sql_x xB hq9, hB, okL_short hB8 (by omega), TA.ext sB, fun HC xC TC => ?_⟩
    have xC' := xB.trans xC
    refine w_bl ?_
    rw [if_neg (by decide)]
    tm_at "wp"
    refine ⟨q, N, _, rfl, sql_x xC' hq9, SqL.of (lst_x xC' hN9), okL_short h8 (by omega), TC, fun HD xD TD => ?_⟩
    refine w_bl ?_
    rw [if_neg (by decide)]
    tm_at "wp"
    exact ⟨_, rfl, xC'.trans xD, TD⟩
theorem ok_law {P : Program} {w : World} {K : PySem.W.Frag} {mg : Str → Option Value} {base : Heap} (fr : Fre mg) (D : Dfd K mg "law" s_law)
    (h__law_pieces : Has P w K mg base CX0 7 "_law_pieces" s__law_pieces [] (sp__law_pieces K))
    (h__law_by_hand : Has P w K mg base CX0 1 "_law_by_hand" s__law_by_hand [] (sp__law_by_hand K))
    (h__law_one_right : Has P w K mg base CX0 11 "_law_one_right" s__law_one_right ["_law_pieces_here", "_law_numbers_here"] (sp__law_one_right K))
    (h__law_right : Has P w K mg base CX0 12 "_law_right" s__law_right ["_law_pool_here", "_law_pieces_here"] (sp__law_right K))
    (h__law_pool : Has P w K mg base CX0 1 "_law_pool" s__law_pool ["_law_cell_here"] (sp__law_pool K))
    (h__law_cell : Has P w K mg base CX0 1 "_law_cell" s__law_cell ["_law_script", "_law_k"] (sp__law_cell K)) : Has P w K mg base CX0 13 "law" s_law ["_law_script"] (sp_law K) := by
  refine D.has sc_law (fun vs H Q E h => ?_) (fun cdv A outer s H vs Q E hr hg h => ?_)
  · obtain ⟨a, ns, rfl, _⟩ := h; rfl
  · obtain ⟨a, ns, rfl, hs0, hn, hT0, k⟩ := h
    have nd := sc_law.nd
    refine ⟨_, PSs.nox (pss_cons (ps_set (i := 1) nd rfl (Or.inr rfl) (pe_fn0 h__law_pieces pb__law_pieces (hr.mono (by decide)) hg rfl pass0))
      (pss_cons (ps_if (pt_not (pt_val (pe_callB (k_all K rfl) rfl fr.all_ (by decide +kernel) (pa_cons (pe_lc (own := [("_law_numbers_here", 2)]) (g := gName 2) (tt := tYes) rfl nd (k_iList K (pe_fn0 h__law_by_hand pb__law_by_hand (hr.mono (by decide)) hg rfl pass0)) (blkOk_by (own := [("_law_numbers_here", 2)]) (N := N_law) (sc := defScope s_law) (by decide +kernel)) (fun _ _ _ _ _ => (pg_name (i := 2) nd rfl (Or.inl rfl))) (fun _ _ _ _ _ => pts_nil) (fun _ _ _ _ _ => (pe_fn h__law_one_right pb__law_one_right (hr.mono (by decide)) hg rfl pass0 (pa_cons (pv 1) (pa_cons (pv 2) pa_nil))))) pa_nil)))) (pss_one (ps_ret pe_bl)) pss_nil)
      (pss_one (ps_ret (pe_callB (k_all K rfl) rfl fr.all_ (by decide +kernel) (pa_cons (pe_lc (own := [("_law_k", 3)]) (g := gName 3) (tt := tYes) rfl nd (pi_range1 rfl fr.range_ (pa_cons (pe_callB (c_max2 rfl) rfl fr.max_ (by decide +kernel) (pa_cons pe_int (pa_cons (pe_callB (c_min2 rfl) rfl fr.min_ (by decide +kernel) (pa_cons (pe_callB (k_len K) rfl fr.len_ (by decide +kernel) (pa_cons (pv 0) pa_nil)) (pa_cons pe_int pa_nil))) pa_nil))) pa_nil)) (blkOk_by (own := [("_law_k", 3)]) (N := N_law) (sc := defScope s_law) (by decide +kernel)) (fun _ _ _ _ _ => (pg_name (i := 3) nd rfl (Or.inl rfl))) (fun _ _ _ _ _ => pts_nil) (fun _ _ _ _ _ => (pe_fn h__law_right pb__law_right (hr.mono (by decide)) hg rfl pass0 (pa_cons (pe_fn h__law_pool pb__law_pool (hr.mono (by decide)) hg rfl pass0 (pa_cons (pe_fn h__law_cell pb__law_cell (hr.mono (by decide)) hg rfl pass0 (pa_cons (pv 0) (pa_cons (pv 3) pa_nil))) pa_nil)) (pa_cons (pv 1) pa_nil))))) pa_nil)))))), ?_⟩
    try dsimp only [cxOf]
    tm_at "wp"
    refine ⟨rfl, fun q H1 s1 hq1 => ?_⟩
    have hsL := s1.seq hs0
    have T1 := hT0.ext s1
    tm_at "wp"
    refine ⟨rfl, fun b xs H2 s2 hb2 hx2 => ?_⟩
    have hs2 := s2.seq hsL
    have T2 := T1.ext s2
    have hq2 := s2 _ _ hq1
    have hxl : xs.length ≤ 100 := by rw [dxs_len hx2, List.length_map]; decide +kernel
    refine w_onL (SqL.of hb2) ?_
    intro D hD
    refine lc_mapX (walk_list (xs := xs)) (tabs K) (by omega) (fun i y => y = .bl true) hD T2 (fun _ x => SqL.of (lst_x x hb2)) ?_ ?_ mono_gname
    · rintro j z G1 G2 hj x6 T6 ⟨rfl, hz⟩ Qy hq
      obtain ⟨d, e3, e4⟩ := dxs_get (dxs_x x6 hx2) hz
      rw [List.getElem?_map] at e3
      obtain ⟨ms, em, rfl⟩ := Option.map_eq_some_iff.mp e3
      obtain ⟨z', rfl, hz'⟩ := ints_inv e4
      refine w_gname ⟨rfl, ?_⟩
      tm_at "wp"
      refine ⟨q, z', ms, rfl, SqL.of (lst_x x6 hq2), hz', hands_ok ms (List.mem_of_getElem? em), T6, fun H' x' T' => ?_⟩
      exact hq _ _ x' T' rfl
    intro acc2 H7 x7 T7 ha2 hl2 hf2
    have e : acc2 = (List.replicate acc2.length true).map V.bl := acc_map (by simp) fun i y e => by
      obtain ⟨h, _⟩ := List.getElem?_eq_some_iff.mp e
      exact ⟨true, by rw [List.getElem?_replicate, if_pos h], hf2 i y e⟩
    rw [e] at ha2
    tm_at "wp"
    refine w_all (SqL.of ha2) ?_
    rw [show (List.replicate acc2.length true).all id = true by simp]
    refine w_bl ?_
    rw [if_neg (by decide)]
    have hs := sql_x x7 hs2
    have hq7 := lst_x x7 hq2
    clear e ha2 hl2 hf2 hD hx2 hb2 x7 T2 hs2 hq2 hxl
    tm_at "wp"
    refine w_lenL hs ?_
    tm_at "wp"
    rw [List.length_map]
    refine w_onR1 ⟨by split <;> split <;> omega, by split <;> split <;> omega⟩ ?_
    intro D1 hD1
    refine lc_mapX walk_range (tabs K) (n := _) (by split <;> split <;> omega) (fun i y => y = .bl true) hD1 T7 (fun _ _ => trivial) ?_ ?_ mono_gname
    · rintro i y H6 H8 hi x6 T6 ⟨rfl, rfl⟩ Qy hq
      refine w_gname ⟨rfl, ?_⟩
      tm_at "wp"
      refine ⟨a, ns, _, rfl, sql_x x6 hs, by omega, by omega, by revert hi; split <;> split <;> omega, fun n H8 s8 => ?_⟩
      tm_at "wp"
      refine ⟨n, rfl, fun p H9 hp s9 hpp => ?_⟩
      have s89 := s8.trans s9
      tm_at "wp"
      refine ⟨p, q, rfl, hpp, SqL.of (s89 _ _ (lst_x x6 hq7)), T6.ext s89, fun H10 x10 T10 => ?_⟩
      exact hq _ _ ((ExtN.of s89).trans x10) T10 rfl
    · intro acc2 H6 x6 T6 ha2 hl2 hf2
      have e : acc2 = (List.replicate acc2.length true).map V.bl := acc_map (by simp) fun i y e => by
        obtain ⟨h, _⟩ := List.getElem?_eq_some_iff.mp e
        exact ⟨true, by rw [List.getElem?_replicate, if_pos h], hf2 i y e⟩
      rw [e] at ha2
      tm_at "wp"
      refine w_all (SqL.of ha2) ?_
      have e2 : (List.replicate acc2.length true).all id = true := by simp
      rw [e2]
      exact k _
structure HdB (w : World) (K : PySem.W.Frag) (h : Heap) (mg : Str → Option Value) : Prop where
  X : K.In h
  G : h.Ns mainGlobals mg
  c : He.SaysD fa fn K
  cx : (ex.all fun e => e K) = true
def HdT (K : PySem.W.Frag) (mg : Str → Option Value) (base : Heap) : Prop := (∀ p ∈ tf.map (He.cT K), TabB base mg p.1 p.2)
theorem fr_of {w : World} {K : PySem.W.Frag} {h : Heap} {mg : Str → Option Value} (B : HdB w K h mg) : Fre mg := ⟨He.free_ok B.X B.G (B.c.fact 43 (f := .free "len") rfl), He.free_ok B.X B.G (B.c.fact 44 (f := .free "isinstance") rfl), He.free_ok B.X B.G (B.c.fact 45 (f := .free "range") rfl), He.free_ok B.X B.G (B.c.fact 46 (f := .free "enumerate") rfl), He.free_ok B.X B.G (B.c.fact 47 (f := .free "zip") rfl), He.free_ok B.X B.G (B.c.fact 48 (f := .free "reversed") rfl), He.free_ok B.X B.G (B.c.fact 49 (f := .free "int") rfl), He.free_ok B.X B.G (B.c.fact 50 (f := .free "str") rfl), He.free_ok B.X B.G (B.c.fact 51 (f := .free "bool") rfl), He.free_ok B.X B.G (B.c.fact 52 (f := .free "tuple") rfl), He.free_ok B.X B.G (B.c.fact 53 (f := .free "list") rfl), He.free_ok B.X B.G (B.c.fact 54 (f := .free "dict") rfl), He.free_ok B.X B.G (B.c.fact 55 (f := .free "bytes") rfl), He.free_ok B.X B.G (B.c.fact 56 (f := .free "set") rfl), He.free_ok B.X B.G (B.c.fact 57 (f := .free "sum") rfl), He.free_ok B.X B.G (B.c.fact 58 (f := .free "all") rfl), He.free_ok B.X B.G (B.c.fact 59 (f := .free "any") rfl), He.free_ok B.X B.G (B.c.fact 60 (f := .free "abs") rfl), He.free_ok B.X B.G (B.c.fact 61 (f := .free "min") rfl), He.free_ok B.X B.G (B.c.fact 62 (f := .free "max") rfl), He.free_ok B.X B.G (B.c.fact 63 (f := .free "sorted") rfl), He.free_ok B.X B.G (B.c.fact 64 (f := .free "repr") rfl), He.free_ok B.X B.G (B.c.fact 65 (f := .free "divmod") rfl), He.free_ok B.X B.G (B.c.fact 66 (f := .free "type") rfl), He.free_ok B.X B.G (B.c.fact 67 (f := .free "map") rfl), He.free_ok B.X B.G (B.c.fact 68 (f := .free "iter") rfl), He.free_ok B.X B.G (B.c.fact 69 (f := .free "next") rfl)⟩
theorem c_MAX_CAPACITY_of {w : World} {K : PySem.W.Frag} {h : Heap} {mg : Str → Option Value} (B : HdB w K h mg) : ∃ t, mg "MAX_CAPACITY" = some (.int 8 t) := He.int_ok B.X B.G (B.c.fact 70 (f := .int "MAX_CAPACITY" 8) rfl)
theorem c_LETTERS_of {w : World} {K : PySem.W.Frag} {h : Heap} {mg : Str → Option Value} (B : HdB w K h mg) : ∃ t, mg "LETTERS" = some (.str "abcdefghijklmnopqrstuvwxyz" t) := He.str_ok B.X B.G (B.c.fact 71 (f := .str "LETTERS" "abcdefghijklmnopqrstuvwxyz") rfl)
theorem c_FIRST_LETTER_of {w : World} {K : PySem.W.Frag} {h : Heap} {mg : Str → Option Value} (B : HdB w K h mg) : ∃ t, mg "FIRST_LETTER" = some (.int 97 t) := He.int_ok B.X B.G (B.c.fact 72 (f := .int "FIRST_LETTER" 97) rfl)
theorem cl_Summary_of {w : World} {K : PySem.W.Frag} {h : Heap} {mg : Str → Option Value} (B : HdB w K h mg) : ClsF K mg "Summary" ["capacity", "counts", "__bool__"] := clsB_ok B.X B.G (ex_at B.cx 0 rfl)
theorem et_Summary___init___0_of {w : World} {K : PySem.W.Frag} {h : Heap} {mg : Str → Option Value} (B : HdB w K h mg) : ∀ H : Hp, SqT K H (dflA "Summary" "__init__" 0 K) [] := fun H => etupB_ok (ex_at B.cx 1 rfl) H
theorem xk_InvalidCapacity_of {w : World} {K : PySem.W.Frag} {h : Heap} {mg : Str → Option Value} (B : HdB w K h mg) : ExcK K mg "InvalidCapacity" "capacity" := exkB_ok B.X B.G (ex_at B.cx 2 rfl)
theorem xk_InvalidSummary_of {w : World} {K : PySem.W.Frag} {h : Heap} {mg : Str → Option Value} (B : HdB w K h mg) : ExcK K mg "InvalidSummary" "index" := exkB_ok B.X B.G (ex_at B.cx 3 rfl)
theorem xk_NotASummary_of {w : World} {K : PySem.W.Frag} {h : Heap} {mg : Str → Option Value} (B : HdB w K h mg) : ExcK K mg "NotASummary" "value" := exkB_ok B.X B.G (ex_at B.cx 4 rfl)
theorem xk_InvalidText_of {w : World} {K : PySem.W.Frag} {h : Heap} {mg : Str → Option Value} (B : HdB w K h mg) : ExcK K mg "InvalidText" "text" := exkB_ok B.X B.G (ex_at B.cx 5 rfl)
theorem xm_InvalidSummary_InvalidSummary_of {w : World} {K : PySem.W.Frag} {h : Heap} {mg : Str → Option Value} (B : HdB w K h mg) : PySem.W.exmOne K (.ref (He.ga K "InvalidSummary")) (.ref (He.ga K "InvalidSummary")) = some true := of_decide_eq_true (ex_at B.cx 6 rfl)
theorem xE_of {w : World} {K : PySem.W.Frag} {h : Heap} {mg : Str → Option Value} (B : HdB w K h mg) : ExF K mg := exfB_ok B.X B.G (ex_at B.cx 7 rfl)
theorem tn__law_one_right__law_others_right_of {w : World} {K : PySem.W.Frag} {h : Heap} {mg : Str → Option Value} (B : HdB w K h mg) : (He.cT K ("_law_one_right", none)).2 ≠ (He.cT K ("_law_others_right", none)).2 := of_decide_eq_true (ex_at B.cx 8 rfl)
theorem D_is_whole_of {w : World} {K : PySem.W.Frag} {h : Heap} {mg : Str → Option Value} (B : HdB w K h mg) : Dfd K mg "is_whole" s_is_whole := ⟨B.c.def_ 0 (d := d_is_whole) rfl, He.glo_ok B.X B.G (B.c.fact 0 (f := .glo "is_whole") rfl)⟩
theorem D_is_from_of {w : World} {K : PySem.W.Frag} {h : Heap} {mg : Str → Option Value} (B : HdB w K h mg) : Dfd K mg "is_from" s_is_from := ⟨B.c.def_ 1 (d := d_is_from) rfl, He.glo_ok B.X B.G (B.c.fact 1 (f := .glo "is_from") rfl)⟩
theorem D_is_between_of {w : World} {K : PySem.W.Frag} {h : Heap} {mg : Str → Option Value} (B : HdB w K h mg) : Dfd K mg "is_between" s_is_between := ⟨B.c.def_ 2 (d := d_is_between) rfl, He.glo_ok B.X B.G (B.c.fact 2 (f := .glo "is_between") rfl)⟩
theorem D_is_capacity_of {w : World} {K : PySem.W.Frag} {h : Heap} {mg : Str → Option Value} (B : HdB w K h mg) : Dfd K mg "is_capacity" s_is_capacity := ⟨B.c.def_ 3 (d := d_is_capacity) rfl, He.glo_ok B.X B.G (B.c.fact 3 (f := .glo "is_capacity") rfl)⟩
theorem D_is_name_of {w : World} {K : PySem.W.Frag} {h : Heap} {mg : Str → Option Value} (B : HdB w K h mg) : Dfd K mg "is_name" s_is_name := ⟨B.c.def_ 4 (d := d_is_name) rfl, He.glo_ok B.X B.G (B.c.fact 4 (f := .glo "is_name") rfl)⟩
theorem D_is_run_of {w : World} {K : PySem.W.Frag} {h : Heap} {mg : Str → Option Value} (B : HdB w K h mg) : Dfd K mg "is_run" s_is_run := ⟨B.c.def_ 5 (d := d_is_run) rfl, He.glo_ok B.X B.G (B.c.fact 5 (f := .glo "is_run") rfl)⟩
theorem D_first_invalid_of {w : World} {K : PySem.W.Frag} {h : Heap} {mg : Str → Option Value} (B : HdB w K h mg) : Dfd K mg "first_invalid" s_first_invalid := ⟨B.c.def_ 6 (d := d_first_invalid) rfl, He.glo_ok B.X B.G (B.c.fact 6 (f := .glo "first_invalid") rfl)⟩
theorem D_check_capacity_of {w : World} {K : PySem.W.Frag} {h : Heap} {mg : Str → Option Value} (B : HdB w K h mg) : Dfd K mg "check_capacity" s_check_capacity := ⟨B.c.def_ 7 (d := d_check_capacity) rfl, He.glo_ok B.X B.G (B.c.fact 7 (f := .glo "check_capacity") rfl)⟩
theorem D_counts_text_of {w : World} {K : PySem.W.Frag} {h : Heap} {mg : Str → Option Value} (B : HdB w K h mg) : Dfd K mg "counts_text" s_counts_text := ⟨B.c.def_ 8 (d := d_counts_text) rfl, He.glo_ok B.X B.G (B.c.fact 8 (f := .glo "counts_text") rfl)⟩
theorem D_Summary___init___of {w : World} {K : PySem.W.Frag} {h : Heap} {mg : Str → Option Value} (B : HdB w K h mg) : DfdM K "Summary" "__init__" "Summary.__init__" s_Summary___init__ [.ref (dflA "Summary" "__init__" 0 K)] := ⟨B.c.def_ 9 (d := d_Summary___init__) rfl, He.meth_ok (B.c.fact 9 (f := .meth "Summary" "__init__") rfl)⟩
theorem D_Summary___str___of {w : World} {K : PySem.W.Frag} {h : Heap} {mg : Str → Option Value} (B : HdB w K h mg) : DfdM K "Summary" "__str__" "Summary.__str__" s_Summary___str__ [] := ⟨B.c.def_ 10 (d := d_Summary___str__) rfl, He.meth_ok (B.c.fact 10 (f := .meth "Summary" "__str__") rfl)⟩
theorem D_Summary___repr___of {w : World} {K : PySem.W.Frag} {h : Heap} {mg : Str → Option Value} (B : HdB w K h mg) : DfdM K "Summary" "__repr__" "Summary.__repr__" s_Summary___repr__ [] := ⟨B.c.def_ 11 (d := d_Summary___repr__) rfl, He.meth_ok (B.c.fact 11 (f := .meth "Summary" "__repr__") rfl)⟩
theorem D_is_summary_of {w : World} {K : PySem.W.Frag} {h : Heap} {mg : Str → Option Value} (B : HdB w K h mg) : Dfd K mg "is_summary" s_is_summary := ⟨B.c.def_ 12 (d := d_is_summary) rfl, He.glo_ok B.X B.G (B.c.fact 12 (f := .glo "is_summary") rfl)⟩
theorem D_check_summary_of {w : World} {K : PySem.W.Frag} {h : Heap} {mg : Str → Option Value} (B : HdB w K h mg) : Dfd K mg "check_summary" s_check_summary := ⟨B.c.def_ 13 (d := d_check_summary) rfl, He.glo_ok B.X B.G (B.c.fact 13 (f := .glo "check_summary") rfl)⟩
theorem D_summary_or_none_of {w : World} {K : PySem.W.Frag} {h : Heap} {mg : Str → Option Value} (B : HdB w K h mg) : Dfd K mg "summary_or_none" s_summary_or_none := ⟨B.c.def_ 14 (d := d_summary_or_none) rfl, He.glo_ok B.X B.G (B.c.fact 14 (f := .glo "summary_or_none") rfl)⟩
theorem D_pack_summary_of {w : World} {K : PySem.W.Frag} {h : Heap} {mg : Str → Option Value} (B : HdB w K h mg) : Dfd K mg "pack_summary" s_pack_summary := ⟨B.c.def_ 15 (d := d_pack_summary) rfl, He.glo_ok B.X B.G (B.c.fact 15 (f := .glo "pack_summary") rfl)⟩
theorem D_block_at_of {w : World} {K : PySem.W.Frag} {h : Heap} {mg : Str → Option Value} (B : HdB w K h mg) : Dfd K mg "block_at" s_block_at := ⟨B.c.def_ 16 (d := d_block_at) rfl, He.glo_ok B.X B.G (B.c.fact 16 (f := .glo "block_at") rfl)⟩
theorem D_pair_at_of {w : World} {K : PySem.W.Frag} {h : Heap} {mg : Str → Option Value} (B : HdB w K h mg) : Dfd K mg "pair_at" s_pair_at := ⟨B.c.def_ 17 (d := d_pair_at) rfl, He.glo_ok B.X B.G (B.c.fact 17 (f := .glo "pair_at") rfl)⟩
theorem D_unpack_summary_of {w : World} {K : PySem.W.Frag} {h : Heap} {mg : Str → Option Value} (B : HdB w K h mg) : Dfd K mg "unpack_summary" s_unpack_summary := ⟨B.c.def_ 18 (d := d_unpack_summary) rfl, He.glo_ok B.X B.G (B.c.fact 18 (f := .glo "unpack_summary") rfl)⟩
theorem D__law_cell_of {w : World} {K : PySem.W.Frag} {h : Heap} {mg : Str → Option Value} (B : HdB w K h mg) : Dfd K mg "_law_cell" s__law_cell := ⟨B.c.def_ 19 (d := d__law_cell) rfl, He.glo_ok B.X B.G (B.c.fact 19 (f := .glo "_law_cell") rfl)⟩
theorem D__law_pool_of {w : World} {K : PySem.W.Frag} {h : Heap} {mg : Str → Option Value} (B : HdB w K h mg) : Dfd K mg "_law_pool" s__law_pool := ⟨B.c.def_ 20 (d := d__law_pool) rfl, He.glo_ok B.X B.G (B.c.fact 20 (f := .glo "_law_pool") rfl)⟩
theorem D__law_draw_of {w : World} {K : PySem.W.Frag} {h : Heap} {mg : Str → Option Value} (B : HdB w K h mg) : Dfd K mg "_law_draw" s__law_draw := ⟨B.c.def_ 21 (d := d__law_draw) rfl, He.glo_ok B.X B.G (B.c.fact 21 (f := .glo "_law_draw") rfl)⟩
theorem D__law_words_of {w : World} {K : PySem.W.Frag} {h : Heap} {mg : Str → Option Value} (B : HdB w K h mg) : Dfd K mg "_law_words" s__law_words := ⟨B.c.def_ 22 (d := d__law_words) rfl, He.glo_ok B.X B.G (B.c.fact 22 (f := .glo "_law_words") rfl)⟩
theorem D__law_often_of {w : World} {K : PySem.W.Frag} {h : Heap} {mg : Str → Option Value} (B : HdB w K h mg) : Dfd K mg "_law_often" s__law_often := ⟨B.c.def_ 23 (d := d__law_often) rfl, He.glo_ok B.X B.G (B.c.fact 23 (f := .glo "_law_often") rfl)⟩
theorem D__law_bag_of {w : World} {K : PySem.W.Frag} {h : Heap} {mg : Str → Option Value} (B : HdB w K h mg) : Dfd K mg "_law_bag" s__law_bag := ⟨B.c.def_ 24 (d := d__law_bag) rfl, He.glo_ok B.X B.G (B.c.fact 24 (f := .glo "_law_bag") rfl)⟩
theorem D__law_kind_of {w : World} {K : PySem.W.Frag} {h : Heap} {mg : Str → Option Value} (B : HdB w K h mg) : Dfd K mg "_law_kind" s__law_kind := ⟨B.c.def_ 25 (d := d__law_kind) rfl, He.glo_ok B.X B.G (B.c.fact 25 (f := .glo "_law_kind") rfl)⟩
theorem D__law_fields_of {w : World} {K : PySem.W.Frag} {h : Heap} {mg : Str → Option Value} (B : HdB w K h mg) : Dfd K mg "_law_fields" s__law_fields := ⟨B.c.def_ 26 (d := d__law_fields) rfl, He.glo_ok B.X B.G (B.c.fact 26 (f := .glo "_law_fields") rfl)⟩
theorem D__law_other_fields_of {w : World} {K : PySem.W.Frag} {h : Heap} {mg : Str → Option Value} (B : HdB w K h mg) : Dfd K mg "_law_other_fields" s__law_other_fields := ⟨B.c.def_ 27 (d := d__law_other_fields) rfl, He.glo_ok B.X B.G (B.c.fact 27 (f := .glo "_law_other_fields") rfl)⟩
theorem D__law_numbers_of {w : World} {K : PySem.W.Frag} {h : Heap} {mg : Str → Option Value} (B : HdB w K h mg) : Dfd K mg "_law_numbers" s__law_numbers := ⟨B.c.def_ 28 (d := d__law_numbers) rfl, He.glo_ok B.X B.G (B.c.fact 28 (f := .glo "_law_numbers") rfl)⟩
theorem D__law_pieces_of {w : World} {K : PySem.W.Frag} {h : Heap} {mg : Str → Option Value} (B : HdB w K h mg) : Dfd K mg "_law_pieces" s__law_pieces := ⟨B.c.def_ 29 (d := d__law_pieces) rfl, He.glo_ok B.X B.G (B.c.fact 29 (f := .glo "_law_pieces") rfl)⟩
theorem D__law_blob_of {w : World} {K : PySem.W.Frag} {h : Heap} {mg : Str → Option Value} (B : HdB w K h mg) : Dfd K mg "_law_blob" s__law_blob := ⟨B.c.def_ 30 (d := d__law_blob) rfl, He.glo_ok B.X B.G (B.c.fact 30 (f := .glo "_law_blob") rfl)⟩
theorem D__law_due_of {w : World} {K : PySem.W.Frag} {h : Heap} {mg : Str → Option Value} (B : HdB w K h mg) : Dfd K mg "_law_due" s__law_due := ⟨B.c.def_ 31 (d := d__law_due) rfl, He.glo_ok B.X B.G (B.c.fact 31 (f := .glo "_law_due") rfl)⟩
theorem D__law_changed_of {w : World} {K : PySem.W.Frag} {h : Heap} {mg : Str → Option Value} (B : HdB w K h mg) : Dfd K mg "_law_changed" s__law_changed := ⟨B.c.def_ 32 (d := d__law_changed) rfl, He.glo_ok B.X B.G (B.c.fact 32 (f := .glo "_law_changed") rfl)⟩
theorem D__law_one_right_of {w : World} {K : PySem.W.Frag} {h : Heap} {mg : Str → Option Value} (B : HdB w K h mg) : Dfd K mg "_law_one_right" s__law_one_right := ⟨B.c.def_ 33 (d := d__law_one_right) rfl, He.glo_ok B.X B.G (B.c.fact 33 (f := .glo "_law_one_right") rfl)⟩
theorem D__law_by_hand_of {w : World} {K : PySem.W.Frag} {h : Heap} {mg : Str → Option Value} (B : HdB w K h mg) : Dfd K mg "_law_by_hand" s__law_by_hand := ⟨B.c.def_ 34 (d := d__law_by_hand) rfl, He.glo_ok B.X B.G (B.c.fact 34 (f := .glo "_law_by_hand") rfl)⟩
theorem D__law_others_right_of {w : World} {K : PySem.W.Frag} {h : Heap} {mg : Str → Option Value} (B : HdB w K h mg) : Dfd K mg "_law_others_right" s__law_others_right := ⟨B.c.def_ 35 (d := d__law_others_right) rfl, He.glo_ok B.X B.G (B.c.fact 35 (f := .glo "_law_others_right") rfl)⟩
theorem D__law_right_of {w : World} {K : PySem.W.Frag} {h : Heap} {mg : Str → Option Value} (B : HdB w K h mg) : Dfd K mg "_law_right" s__law_right := ⟨B.c.def_ 36 (d := d__law_right) rfl, He.glo_ok B.X B.G (B.c.fact 36 (f := .glo "_law_right") rfl)⟩
theorem D_law_of {w : World} {K : PySem.W.Frag} {h : Heap} {mg : Str → Option Value} (B : HdB w K h mg) : Dfd K mg "law" s_law := ⟨B.c.def_ 37 (d := d_law) rfl, He.glo_ok B.X B.G (B.c.fact 37 (f := .glo "law") rfl)⟩
theorem D_InvalidCapacity___init___of {w : World} {K : PySem.W.Frag} {h : Heap} {mg : Str → Option Value} (B : HdB w K h mg) : DfdM K "InvalidCapacity" "__init__" "InvalidCapacity.__init__" s_InvalidCapacity___init__ [] := ⟨B.c.def_ 38 (d := d_InvalidCapacity___init__) rfl, He.meth_ok (B.c.fact 38 (f := .meth "InvalidCapacity" "__init__") rfl)⟩
theorem D_InvalidSummary___init___of {w : World} {K : PySem.W.Frag} {h : Heap} {mg : Str → Option Value} (B : HdB w K h mg) : DfdM K "InvalidSummary" "__init__" "InvalidSummary.__init__" s_InvalidSummary___init__ [] := ⟨B.c.def_ 39 (d := d_InvalidSummary___init__) rfl, He.meth_ok (B.c.fact 39 (f := .meth "InvalidSummary" "__init__") rfl)⟩
theorem D_NotASummary___init___of {w : World} {K : PySem.W.Frag} {h : Heap} {mg : Str → Option Value} (B : HdB w K h mg) : DfdM K "NotASummary" "__init__" "NotASummary.__init__" s_NotASummary___init__ [] := ⟨B.c.def_ 40 (d := d_NotASummary___init__) rfl, He.meth_ok (B.c.fact 40 (f := .meth "NotASummary" "__init__") rfl)⟩
theorem D_InvalidText___init___of {w : World} {K : PySem.W.Frag} {h : Heap} {mg : Str → Option Value} (B : HdB w K h mg) : DfdM K "InvalidText" "__init__" "InvalidText.__init__" s_InvalidText___init__ [] := ⟨B.c.def_ 41 (d := d_InvalidText___init__) rfl, He.meth_ok (B.c.fact 41 (f := .meth "InvalidText" "__init__") rfl)⟩
theorem D__law_caught_of {w : World} {K : PySem.W.Frag} {h : Heap} {mg : Str → Option Value} (B : HdB w K h mg) : Dfd K mg "_law_caught" s__law_caught := ⟨B.c.def_ 42 (d := d__law_caught) rfl, He.glo_ok B.X B.G (B.c.fact 42 (f := .glo "_law_caught") rfl)⟩
theorem x_InvalidCapacity_of {P : Program} {w : World} {K : PySem.W.Frag} {h : Heap} {mg : Str → Option Value} {base : Heap} (B : HdB w K h mg) (T : HdT K mg base) : HasX P w K mg base "InvalidCapacity" "capacity" := hasX_of (xk_InvalidCapacity_of B) (D_InvalidCapacity___init___of B).ex sc_InvalidCapacity___init__ rfl (.inl rfl) (.inl rfl) (fun _ _ _ _ _ _ us hl => match us, hl with | [_, _], _ => rfl)
theorem x_InvalidSummary_of {P : Program} {w : World} {K : PySem.W.Frag} {h : Heap} {mg : Str → Option Value} {base : Heap} (B : HdB w K h mg) (T : HdT K mg base) : HasX P w K mg base "InvalidSummary" "index" := hasX_of (xk_InvalidSummary_of B) (D_InvalidSummary___init___of B).ex sc_InvalidSummary___init__ rfl (.inl rfl) (.inl rfl) (fun _ _ _ _ _ _ us hl => match us, hl with | [_, _], _ => rfl)
theorem x_NotASummary_of {P : Program} {w : World} {K : PySem.W.Frag} {h : Heap} {mg : Str → Option Value} {base : Heap} (B : HdB w K h mg) (T : HdT K mg base) : HasX P w K mg base "NotASummary" "value" := hasX_of (xk_NotASummary_of B) (D_NotASummary___init___of B).ex sc_NotASummary___init__ rfl (.inl rfl) (.inl rfl) (fun _ _ _ _ _ _ us hl => match us, hl with | [_, _], _ => rfl)
theorem x_InvalidText_of {P : Program} {w : World} {K : PySem.W.Frag} {h : Heap} {mg : Str → Option Value} {base : Heap} (B : HdB w K h mg) (T : HdT K mg base) : HasX P w K mg base "InvalidText" "text" := hasX_of (xk_InvalidText_of B) (D_InvalidText___init___of B).ex sc_InvalidText___init__ rfl (.inl rfl) (.inl rfl) (fun _ _ _ _ _ _ us hl => match us, hl with | [_, _], _ => rfl)
theorem tb__law_one_right_of {w : World} {K : PySem.W.Frag} {h : Heap} {mg : Str → Option Value} {base : Heap} (B : HdB w K h mg) (T : HdT K mg base) : TabB base mg (He.cT K ("_law_one_right", none)).1 (He.cT K ("_law_one_right", none)).2 := T _ (List.mem_map.mpr ⟨("_law_one_right", none), by decide, rfl⟩)
theorem tb__law_others_right_of {w : World} {K : PySem.W.Frag} {h : Heap} {mg : Str → Option Value} {base : Heap} (B : HdB w K h mg) (T : HdT K mg base) : TabB base mg (He.cT K ("_law_others_right", none)).1 (He.cT K ("_law_others_right", none)).2 := T _ (List.mem_map.mpr ⟨("_law_others_right", none), by decide, rfl⟩)
theorem hu__law_one_right_of {w : World} {K : PySem.W.Frag} {h : Heap} {mg : Str → Option Value} {base : Heap} (B : HdB w K h mg) (T : HdT K mg base) : ∀ p ∈ tabs K, p.1 = (He.cT K ("_law_one_right", none)).2 → p.2 = "_law_one_right.<locals>.<lambda>" := by
    intro p hp e
    rcases List.mem_cons.mp hp with q | hp
    · rw [q]
    rcases List.mem_cons.mp hp with q | hp
    · rw [q] at e; exact absurd e.symm (tn__law_one_right__law_others_right_of B)
    cases hp
theorem hu__law_others_right_of {w : World} {K : PySem.W.Frag} {h : Heap} {mg : Str → Option Value} {base : Heap} (B : HdB w K h mg) (T : HdT K mg base) : ∀ p ∈ tabs K, p.1 = (He.cT K ("_law_others_right", none)).2 → p.2 = "_law_others_right.<locals>.<lambda>" := by
    intro p hp e
    rcases List.mem_cons.mp hp with q | hp
    · rw [q] at e; exact absurd e (tn__law_one_right__law_others_right_of B)
    rcases List.mem_cons.mp hp with q | hp
    · rw [q]
    cases hp
theorem h_is_summary_of {P : Program} {w : World} {K : PySem.W.Frag} {h : Heap} {mg : Str → Option Value} {base : Heap} (B : HdB w K h mg) (T : HdT K mg base) : Has P w K mg base CX0 1 "is_summary" s_is_summary ["thing"] (sp_is_summary K) := ok_is_summary (fr_of B) (cl_Summary_of B) (et_Summary___init___0_of B) (D_is_summary_of B)
theorem h_check_summary_of {P : Program} {w : World} {K : PySem.W.Frag} {h : Heap} {mg : Str → Option Value} {base : Heap} (B : HdB w K h mg) (T : HdT K mg base) : Has P w K mg base (L2.CX P w) 4 "check_summary" s_check_summary ["thing"] (sp_check_summary K) := ok_check_summary (fr_of B) (x_NotASummary_of B T) (D_check_summary_of B) (h_is_summary_of B T)
theorem h_pack_summary_of {P : Program} {w : World} {K : PySem.W.Frag} {h : Heap} {mg : Str → Option Value} {base : Heap} (B : HdB w K h mg) (T : HdT K mg base) : Has P w K mg base (L2.CX P w) 5 "pack_summary" s_pack_summary ["summary"] (sp_pack_summary K) := ok_pack_summary (fr_of B) (cl_Summary_of B) (et_Summary___init___0_of B) (D_pack_summary_of B) (h_check_summary_of B T)
theorem h_is_whole_of {P : Program} {w : World} {K : PySem.W.Frag} {h : Heap} {mg : Str → Option Value} {base : Heap} (B : HdB w K h mg) (T : HdT K mg base) : Has P w K mg base CX0 1 "is_whole" s_is_whole ["thing"] (sp_is_whole K) := ok_is_whole (fr_of B) (D_is_whole_of B)
theorem h_is_between_of {P : Program} {w : World} {K : PySem.W.Frag} {h : Heap} {mg : Str → Option Value} {base : Heap} (B : HdB w K h mg) (T : HdT K mg base) : Has P w K mg base CX0 2 "is_between" s_is_between ["thing", "least", "most"] (sp_is_between K) := ok_is_between (fr_of B) (D_is_between_of B) (h_is_whole_of B T)
theorem h_is_capacity_of {P : Program} {w : World} {K : PySem.W.Frag} {h : Heap} {mg : Str → Option Value} {base : Heap} (B : HdB w K h mg) (T : HdT K mg base) : Has P w K mg base CX0 3 "is_capacity" s_is_capacity ["thing"] (sp_is_capacity K) := ok_is_capacity (fr_of B) (c_MAX_CAPACITY_of B) (D_is_capacity_of B) (h_is_between_of B T)
theorem h_check_capacity_of {P : Program} {w : World} {K : PySem.W.Frag} {h : Heap} {mg : Str → Option Value} {base : Heap} (B : HdB w K h mg) (T : HdT K mg base) : Has P w K mg base (L2.CX P w) 4 "check_capacity" s_check_capacity ["thing"] (sp_check_capacity K) := ok_check_capacity (fr_of B) (x_InvalidCapacity_of B T) (D_check_capacity_of B) (h_is_capacity_of B T)
theorem h_is_from_of {P : Program} {w : World} {K : PySem.W.Frag} {h : Heap} {mg : Str → Option Value} {base : Heap} (B : HdB w K h mg) (T : HdT K mg base) : Has P w K mg base CX0 2 "is_from" s_is_from ["thing", "least"] (sp_is_from K) := ok_is_from (fr_of B) (D_is_from_of B) (h_is_whole_of B T)
theorem h_is_name_of {P : Program} {w : World} {K : PySem.W.Frag} {h : Heap} {mg : Str → Option Value} {base : Heap} (B : HdB w K h mg) (T : HdT K mg base) : Has P w K mg base CX0 1 "is_name" s_is_name ["thing"] (sp_is_name K) := ok_is_name (fr_of B) (c_LETTERS_of B) (D_is_name_of B)
theorem h_is_run_of {P : Program} {w : World} {K : PySem.W.Frag} {h : Heap} {mg : Str → Option Value} {base : Heap} (B : HdB w K h mg) (T : HdT K mg base) : Has P w K mg base CX0 3 "is_run" s_is_run ["thing"] (sp_is_run K) := ok_is_run (fr_of B) (D_is_run_of B) (h_is_from_of B T) (h_is_name_of B T)
theorem h_first_invalid_of {P : Program} {w : World} {K : PySem.W.Frag} {h : Heap} {mg : Str → Option Value} {base : Heap} (B : HdB w K h mg) (T : HdT K mg base) : Has P w K mg base CX0 4 "first_invalid" s_first_invalid ["thing", "most"] (sp_first_invalid K) := ok_first_invalid (fr_of B) (D_first_invalid_of B) (h_is_run_of B T)
theorem h_Summary___init___of {P : Program} {w : World} {K : PySem.W.Frag} {h : Heap} {mg : Str → Option Value} {base : Heap} (B : HdB w K h mg) (T : HdT K mg base) : HasM P w K mg base (L2.CX P w) 5 "Summary" "__init__" "Summary.__init__" s_Summary___init__ [.ref (dflA "Summary" "__init__" 0 K)] ["self", "capacity", "counts"] (sp_Summary___init__ K) := ok_Summary___init__ (fr_of B) (cl_Summary_of B) (et_Summary___init___0_of B) (x_InvalidSummary_of B T) (D_Summary___init___of B) (h_check_capacity_of B T) (h_first_invalid_of B T)
theorem h__law_pieces_of {P : Program} {w : World} {K : PySem.W.Frag} {h : Heap} {mg : Str → Option Value} {base : Heap} (B : HdB w K h mg) (T : HdT K mg base) : Has P w K mg base CX0 7 "_law_pieces" s__law_pieces [] (sp__law_pieces K) := ok__law_pieces (fr_of B) (cl_Summary_of B) (et_Summary___init___0_of B) (D__law_pieces_of B) (h_pack_summary_of B T) (h_Summary___init___of B T)
theorem h__law_by_hand_of {P : Program} {w : World} {K : PySem.W.Frag} {h : Heap} {mg : Str → Option Value} {base : Heap} (B : HdB w K h mg) (T : HdT K mg base) : Has P w K mg base CX0 1 "_law_by_hand" s__law_by_hand [] (sp__law_by_hand K) := ok__law_by_hand (fr_of B) (D__law_by_hand_of B)
theorem h__law_due_of {P : Program} {w : World} {K : PySem.W.Frag} {h : Heap} {mg : Str → Option Value} {base : Heap} (B : HdB w K h mg) (T : HdT K mg base) : Has P w K mg base CX0 1 "_law_due" s__law_due ["_law_numbers_here"] (sp__law_due K) := ok__law_due (fr_of B) (D__law_due_of B)
theorem h__law_blob_of {P : Program} {w : World} {K : PySem.W.Frag} {h : Heap} {mg : Str → Option Value} {base : Heap} (B : HdB w K h mg) (T : HdT K mg base) : Has P w K mg base CX0 1 "_law_blob" s__law_blob ["_law_pieces_here", "_law_numbers_here"] (sp__law_blob K) := ok__law_blob (fr_of B) (D__law_blob_of B)
theorem h__law_kind_of {P : Program} {w : World} {K : PySem.W.Frag} {h : Heap} {mg : Str → Option Value} {base : Heap} (B : HdB w K h mg) (T : HdT K mg base) : HasP P w K mg base 1 "_law_kind" s__law_kind ["_law_e"] (sp__law_kind K) := ok__law_kind (fr_of B) (xE_of B) (D__law_kind_of B)
theorem h__law_other_fields_of {P : Program} {w : World} {K : PySem.W.Frag} {h : Heap} {mg : Str → Option Value} {base : Heap} (B : HdB w K h mg) (T : HdT K mg base) : HasP P w K mg base 1 "_law_other_fields" s__law_other_fields ["_law_e"] (sp__law_other_fields K) := ok__law_other_fields (fr_of B) (xE_of B) (D__law_other_fields_of B)
theorem h__law_fields_of {P : Program} {w : World} {K : PySem.W.Frag} {h : Heap} {mg : Str → Option Value} {base : Heap} (B : HdB w K h mg) (T : HdT K mg base) : HasP P w K mg base 2 "_law_fields" s__law_fields ["_law_e"] (sp__law_fields K) := ok__law_fields (fr_of B) (xE_of B) (D__law_fields_of B) (h__law_other_fields_of B T)
theorem h_block_at_of {P : Program} {w : World} {K : PySem.W.Frag} {h : Heap} {mg : Str → Option Value} {base : Heap} (B : HdB w K h mg) (T : HdT K mg base) : Has P w K mg base CX0 1 "block_at" s_block_at ["data", "index"] (sp_block_at K) := ok_block_at (fr_of B) (D_block_at_of B)
theorem h_pair_at_of {P : Program} {w : World} {K : PySem.W.Frag} {h : Heap} {mg : Str → Option Value} {base : Heap} (B : HdB w K h mg) (T : HdT K mg base) : Has P w K mg base CX0 2 "pair_at" s_pair_at ["data", "index"] (sp_pair_at K) := ok_pair_at (fr_of B) (c_FIRST_LETTER_of B) (c_LETTERS_of B) (D_pair_at_of B) (h_block_at_of B T)
theorem h_summary_or_none_of {P : Program} {w : World} {K : PySem.W.Frag} {h : Heap} {mg : Str → Option Value} {base : Heap} (B : HdB w K h mg) (T : HdT K mg base) : Has P w K mg base CX0 7 "summary_or_none" s_summary_or_none ["capacity", "counts"] (sp_summary_or_none K) := ok_summary_or_none (fr_of B) (cl_Summary_of B) (et_Summary___init___0_of B) (x_InvalidSummary_of B T) (xm_InvalidSummary_InvalidSummary_of B) (D_summary_or_none_of B) (h_Summary___init___of B T)
theorem h_unpack_summary_of {P : Program} {w : World} {K : PySem.W.Frag} {h : Heap} {mg : Str → Option Value} {base : Heap} (B : HdB w K h mg) (T : HdT K mg base) : Has P w K mg base (L2.CX P w) 8 "unpack_summary" s_unpack_summary ["data"] (sp_unpack_summary K) := ok_unpack_summary (fr_of B) (x_InvalidText_of B T) (D_unpack_summary_of B) (h_is_capacity_of B T) (h_pair_at_of B T) (h_summary_or_none_of B T)
theorem h_counts_text_of {P : Program} {w : World} {K : PySem.W.Frag} {h : Heap} {mg : Str → Option Value} {base : Heap} (B : HdB w K h mg) (T : HdT K mg base) : HasA P w K mg base CX0 1 "counts_text" s_counts_text ["counts"] (sp_counts_text K) := ok_counts_text (fr_of B) (D_counts_text_of B)
theorem h_Summary___repr___of {P : Program} {w : World} {K : PySem.W.Frag} {h : Heap} {mg : Str → Option Value} {base : Heap} (B : HdB w K h mg) (T : HdT K mg base) : HasMA P w K mg base CX0 2 "Summary" "__repr__" "Summary.__repr__" s_Summary___repr__ [] ["self"] (sp_Summary___repr__ K) := ok_Summary___repr__ (fr_of B) (cl_Summary_of B) (et_Summary___init___0_of B) (D_Summary___repr___of B) (h_counts_text_of B T)
theorem h__law_one_right_of {P : Program} {w : World} {K : PySem.W.Frag} {h : Heap} {mg : Str → Option Value} {base : Heap} (B : HdB w K h mg) (T : HdT K mg base) : Has P w K mg base CX0 11 "_law_one_right" s__law_one_right ["_law_pieces_here", "_law_numbers_here"] (sp__law_one_right K) := ok__law_one_right (fr_of B) (cl_Summary_of B) (et_Summary___init___0_of B) (xE_of B) (D__law_caught_of B) (D__law_one_right_of B) (tb__law_one_right_of B T) (hu__law_one_right_of B T) (h__law_due_of B T) (h__law_blob_of B T) (h__law_kind_of B T) (h__law_fields_of B T) (h_unpack_summary_of B T) (h_Summary___repr___of B T)
theorem h__law_draw_of {P : Program} {w : World} {K : PySem.W.Frag} {h : Heap} {mg : Str → Option Value} {base : Heap} (B : HdB w K h mg) (T : HdT K mg base) : Has P w K mg base CX0 1 "_law_draw" s__law_draw ["_law_pool_here", "_law_many"] (sp__law_draw K) := ok__law_draw (fr_of B) (D__law_draw_of B)
theorem h__law_often_of {P : Program} {w : World} {K : PySem.W.Frag} {h : Heap} {mg : Str → Option Value} {base : Heap} (B : HdB w K h mg) (T : HdT K mg base) : Has P w K mg base CX0 2 "_law_often" s__law_often ["_law_pool_here"] (sp__law_often K) := ok__law_often (fr_of B) (D__law_often_of B) (h__law_draw_of B T)
theorem h__law_bag_of {P : Program} {w : World} {K : PySem.W.Frag} {h : Heap} {mg : Str → Option Value} {base : Heap} (B : HdB w K h mg) (T : HdT K mg base) : Has P w K mg base CX0 3 "_law_bag" s__law_bag ["_law_pool_here", "_law_words_here", "_law_most"] (sp__law_bag K) := ok__law_bag (fr_of B) (D__law_bag_of B) (h__law_draw_of B T) (h__law_often_of B T)
theorem h__law_words_of {P : Program} {w : World} {K : PySem.W.Frag} {h : Heap} {mg : Str → Option Value} {base : Heap} (B : HdB w K h mg) (T : HdT K mg base) : Has P w K mg base CX0 2 "_law_words" s__law_words ["_law_pool_here", "_law_many"] (sp__law_words K) := ok__law_words (fr_of B) (D__law_words_of B) (h__law_draw_of B T)
theorem h__law_numbers_of {P : Program} {w : World} {K : PySem.W.Frag} {h : Heap} {mg : Str → Option Value} {base : Heap} (B : HdB w K h mg) (T : HdT K mg base) : Has P w K mg base CX0 1 "_law_numbers" s__law_numbers ["_law_blob_here"] (sp__law_numbers K) := ok__law_numbers (fr_of B) (D__law_numbers_of B)
theorem h__law_changed_of {P : Program} {w : World} {K : PySem.W.Frag} {h : Heap} {mg : Str → Option Value} {base : Heap} (B : HdB w K h mg) (T : HdT K mg base) : Has P w K mg base CX0 2 "_law_changed" s__law_changed ["_law_pool_here", "_law_numbers_here"] (sp__law_changed K) := ok__law_changed (fr_of B) (D__law_changed_of B) (h__law_draw_of B T)
theorem h_Summary___str___of {P : Program} {w : World} {K : PySem.W.Frag} {h : Heap} {mg : Str → Option Value} {base : Heap} (B : HdB w K h mg) (T : HdT K mg base) : HasM P w K mg base CX0 2 "Summary" "__str__" "Summary.__str__" s_Summary___str__ [] ["self"] (sp_Summary___str__ K) := ok_Summary___str__ (fr_of B) (cl_Summary_of B) (et_Summary___init___0_of B) (D_Summary___str___of B) (h_counts_text_of B T)
theorem h__law_others_right_of {P : Program} {w : World} {K : PySem.W.Frag} {h : Heap} {mg : Str → Option Value} {base : Heap} (B : HdB w K h mg) (T : HdT K mg base) : Has P w K mg base CX0 11 "_law_others_right" s__law_others_right ["_law_width", "_law_bag_here"] (sp__law_others_right K) := ok__law_others_right (fr_of B) (cl_Summary_of B) (et_Summary___init___0_of B) (xE_of B) (D__law_caught_of B) (D__law_others_right_of B) (tb__law_others_right_of B T) (hu__law_others_right_of B T) (h_Summary___init___of B T) (h_pack_summary_of B T) (h__law_numbers_of B T) (h_Summary___str___of B T) (h_Summary___repr___of B T) (h__law_kind_of B T) (h__law_fields_of B T) (h_unpack_summary_of B T)
theorem h__law_right_of {P : Program} {w : World} {K : PySem.W.Frag} {h : Heap} {mg : Str → Option Value} {base : Heap} (B : HdB w K h mg) (T : HdT K mg base) : Has P w K mg base CX0 12 "_law_right" s__law_right ["_law_pool_here", "_law_pieces_here"] (sp__law_right K) := ok__law_right (fr_of B) (cl_Summary_of B) (et_Summary___init___0_of B) (D__law_right_of B) (h__law_draw_of B T) (h__law_bag_of B T) (h__law_words_of B T) (h__law_numbers_of B T) (h_pack_summary_of B T) (h_Summary___init___of B T) (h__law_one_right_of B T) (h__law_changed_of B T) (h__law_others_right_of B T)
theorem h__law_pool_of {P : Program} {w : World} {K : PySem.W.Frag} {h : Heap} {mg : Str → Option Value} {base : Heap} (B : HdB w K h mg) (T : HdT K mg base) : Has P w K mg base CX0 1 "_law_pool" s__law_pool ["_law_cell_here"] (sp__law_pool K) := ok__law_pool (fr_of B) (D__law_pool_of B)
theorem h__law_cell_of {P : Program} {w : World} {K : PySem.W.Frag} {h : Heap} {mg : Str → Option Value} {base : Heap} (B : HdB w K h mg) (T : HdT K mg base) : Has P w K mg base CX0 1 "_law_cell" s__law_cell ["_law_script", "_law_k"] (sp__law_cell K) := ok__law_cell (fr_of B) (D__law_cell_of B)
theorem h_law_of {P : Program} {w : World} {K : PySem.W.Frag} {h : Heap} {mg : Str → Option Value} {base : Heap} (B : HdB w K h mg) (T : HdT K mg base) : Has P w K mg base CX0 13 "law" s_law ["_law_script"] (sp_law K) := ok_law (fr_of B) (D_law_of B) (h__law_pieces_of B T) (h__law_by_hand_of B T) (h__law_one_right_of B T) (h__law_right_of B T) (h__law_pool_of B T) (h__law_cell_of B T)
theorem facts {P : Program} {w : World} {K : PySem.W.Frag} {h : Heap} {mg : Str → Option Value} {f : Addr} (X : K.In h) (G : h.Ns mainGlobals mg) (hfa : mg ("law" : Str) = some (.ref f)) (c : He.SaysD fa fn K) (cx : (ex.all fun e => e K) = true) :
    ∃ fd : FuncData, (∀ (s : Shared) (v : Value), BindsTo s fd ⟨[v], []⟩ [("_law_script", v)]) ∧ ∀ base : Heap, (∀ p ∈ tf.map (He.cT K), TabB base mg p.1 p.2) → FnG P w K mg base CX0 13 f fd ["_law_script"] (sp_law K) := by
  have B : HdB w K h mg := ⟨X, G, c, cx⟩
  have D_law := D_law_of B
  have e := hfa.symm.trans D_law.glo
  cases e
  obtain ⟨fd, F⟩ := D_law.ex
  have b := FunD.bindsA (ps := ["_law_script"]) F fun _ _ _ _ _ _ us hl => match us, hl with | [_], _ => rfl
  refine ⟨fd, fun s v => b s [v] rfl, fun base htb => ?_⟩
  exact (h_law_of (P := P) B htb).fixed F
end TP
open PySem PySem.W PySem.Calls PyProof.Rows
set_option maxRecDepth 100000 in
set_option maxHeartbeats 0 in
theorem PySem.Challenge.cw_tallyplans_k19_bytes_that_are_none_holds : PySem.Challenge.rw_tallyplans_k19_bytes_that_are_none.Holds := by
  refine TP.frame ?hc
  case hc =>
    refine TP.walkGT (l := PySem.Challenge.rw_tallyplans_k19_bytes_that_are_none) (n := 63) (k := 13) (x := "_law_script") rfl (by decide) (by kernel_rfl) ⟨rfl, by decide, by decide⟩ ?F
    intro w mg fa h Y G hmg0
    obtain ⟨K, KX, c⟩ := Y
    have hmg : mg ("law" : PySem.Str) = some (.ref fa) := by
      have e : (HandSHeadRun.topDef (OpenLaw.row PySem.Challenge.rw_tallyplans_k19_bytes_that_are_none).prog 70).name = ("law" : PySem.Str) := by kernel_rfl
      rw [← e]
      exact hmg0
    obtain ⟨fd, hb, hF⟩ := TP.facts (P := (PySem.Challenge.rw_tallyplans_k19_bytes_that_are_none).prog) (w := w) KX G hmg c.t.d c.more
    refine ⟨K, KX, fd, TP.tf.map (He.cT K), TP.sp_law K, fun p hp => ?_, fun p hp => ?_, fun p hp => ?_, hb, fun H a ns hl hT hS => ?_, fun base _ _ ht => hF base ht⟩
    · obtain ⟨q, hq, rfl⟩ := List.mem_map.mp hp; exact c.empty q hq
    · obtain ⟨q, hq, rfl⟩ := List.mem_map.mp hp; exact c.out q hq
    · obtain ⟨q, hq, rfl⟩ := List.mem_map.mp hp; exact PySem.W.codeHd_of_K KX (c.hd q hq)
    · have hT2 : LamX.Tabs (TP.tabs K) H := fun p hp => by
        rcases List.mem_cons.mp hp with e | hp
        · rw [e]; exact LamX.TabS.nil (hT _ (List.mem_map.mpr ⟨("_law_one_right", none), by decide, rfl⟩))
        rcases List.mem_cons.mp hp with e | hp
        · rw [e]; exact LamX.TabS.nil (hT _ (List.mem_map.mpr ⟨("_law_others_right", none), by decide, rfl⟩))
        exact absurd hp List.not_mem_nil
      exact ⟨a, ns, rfl, hS, hl, hT2, fun _ => rfl⟩
