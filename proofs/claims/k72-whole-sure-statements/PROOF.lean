import PyProof.Rows.All
import Wide.All
import OpenK.AllK
import Wide.FinOn
import KE.KStateDown
import HandS.ForMost
import HandS.More
import HandS.Flow
import HandS.Style
import HandS.Wide
import HandS.WideBits
import HandS.IsInst
import HandS.Defaults
import HandS.FStr
import HandS.DictComp
import HandS.Walk
import HandS.Exc
import HandS.WordsExc
import HandS.Head0
import HandS.Head1
import HandS.Head2
import HandS.HeadEnd
import HandS.HeadHook1
import HandS.HeadHook2
import PyProof.ReprRoads
import KE.GoesEnum
import KE.GoesMore
import HandS.TupAny
import HandS.RaiseMore
import PyProof.StrLawsRepr
import PyProof.StrOps2
import PyProof.StrBlockL
import PyProof.Rows.RegStrFacts
import HandS.MakeKw
import HandS.TupMul
import HandS.SortKw
import OpenK.KOps
import KE.KCallOwn
import KE.KEqDict
import HandS.TupSets
import KE.KSortTupAny
import PyProof.InstNe
import HandS.Text
import KE.DataMinMax
import PySem.Challenge.RW_tallyplans_k72_whole_sure_statements
set_option Elab.async false
set_option linter.all false
set_option maxRecDepth 100000
set_option maxHeartbeats 4000000
namespace TP
open PySem PySem.Spec PyProof.Rows L2
/-! ### a def that is called where no repr is under way -/
structure FnG (P : Program) (w : World) (K : PySem.W.Frag) (mg : Str → Option Value) (base : Heap) (CX : CXT) (k : Nat) (f : Addr) (fd : FuncData) (ps : List Str) (sp : Sp) : Prop where
  len : ∀ vs H Q E, sp vs H Q E → vs.length = ps.length
  run : ∀ (A : Around) (outer : List Env) (s : Shared) (H : Hp) (args : Args) (us : List Value) (vs : List V) (Q : VK) (E : XK), Room k A → A.guards = some [] →
    Env0 P w K mg base A outer s H → BindsTo s fd args (ps.zip us) → Vals vs us → sp vs H Q E → codeAny (model P w) A (.call (.ref f) args) (CR CX outer P w H s Q E) s
section
variable {P : Program} {w : World} {K : PySem.W.Frag} {mg : Str → Option Value} {base : Heap} {CX : CXT} {j k : Nat} {f : Addr} {fd : FuncData} {ps : List Str} {sp sp' : Sp}
end
/-! ### a def of the module, by its name -/
structure Has (P : Program) (w : World) (K : PySem.W.Frag) (mg : Str → Option Value) (base : Heap) (CX : CXT) (k : Nat) (x : Str) (st : Stmt) (ps : List Str) (sp : Sp) : Prop where
  ex : ∃ fd, FunD K x x (defArgs st) (defBody st) (defScope st) [] [] (He.ga K x) fd ∧ FnG P w K mg base CX k (He.ga K x) fd ps sp
  glo : mg x = some (.ref (He.ga K x))
/-- what the head tells of a def -/
structure Dfd (K : PySem.W.Frag) (mg : Str → Option Value) (x : Str) (st : Stmt) : Prop where
  ex : ∃ fd, FunD K x x (defArgs st) (defBody st) (defScope st) [] [] (He.ga K x) fd
  glo : mg x = some (.ref (He.ga K x))
section
variable {P : Program} {w : World} {K : PySem.W.Frag} {mg : Str → Option Value} {base : Heap} {CX : CXT} {k j : Nat} {x : Str} {st : Stmt} {N ps : List Str} {sp sp' : Sp}
end
section
variable {X : Cx} {CX : CXT} {k : Nat} {f : Addr} {fd : FuncData} {ps ks : List Str} {sp : Sp} {E : XK} {x : Str} {st : Stmt} {p pos : Pos} {e : Expr} {es : List Expr} {kws : List Keyword} {t tk : TA}
/-- how positional values bind where no default stands -/
def PosB (x : Str) (st : Stmt) (ps : List Str) : Prop := ∀ (kV doc pm : Value) (an : Option Addr) (cdv ct : Value) (us : List Value), us.length = ps.length →
  bindArgs (PySem.W.fnOf x x (defArgs st) (defBody st) (defScope st) .none kV doc pm an cdv ct) ⟨us, []⟩ = pure (ps.zip us)
/-- .. and keywords -/
def KwB (x : Str) (st : Stmt) (ps : List Str) (n : Nat) (ks : List Str) (g : {α : Type} → List α → List α → List α) : Prop := ∀ (kV doc pm : Value) (an : Option Addr) (cdv ct : Value) (us ws : List Value), us.length = n → ws.length = ks.length →
  bindArgs (PySem.W.fnOf x x (defArgs st) (defBody st) (defScope st) .none kV doc pm an cdv ct) ⟨us, ks.zip ws⟩ = pure (ps.zip (g us ws))
/-- f(e, .., k = v, ..) -/
def tCallW (sp : Sp) (n m : Nat) (g : {α : Type} → List α → List α → List α) (E : XK) (t tk : TA) : TE := fun σ H Q => t σ H fun vs H1 => tk σ H1 fun zs H2 => vs.length = n ∧ zs.length = m ∧ sp (g vs zs) H2 Q E
end
/-! ### the end of a law -/
section
variable {P : Program} {w : World} {K : PySem.W.Frag} {mg mb : Str → Option Value} {k : Nat} {fa a : Addr} {fd : FuncData} {x : Str} {sp : Sp} {s₁ : Shared} {vs : List Value} {ns : List Int}
end
end TP

namespace TP
open PySem PySem.Spec PyProof.Rows L2
/-! ### heaps -/
section
variable {H H' H1 : Hp} {p q : Addr} {o u : HO}
end
/-- all but what stands at l is as it was -/
def SameB (l : Addr) (H H' : Hp) : Prop := ∀ b o, b ≠ l → H b = some o → H' b = some o
theorem SameB.trans {l : Addr} {H H1 H2 : Hp} (a : SameB l H H1) (b : SameB l H1 H2) : SameB l H H2 := fun c o n h => b c o n (a c o n h)
theorem SameB.upd {l : Addr} {H : Hp} {u : HO} : SameB l H (upd H l u) := fun b o n h => (upd_ne n).trans h
/-- tuples (and what is known of the script) are as they were -/
def SameT (H H' : Hp) : Prop := ∀ a o, H a = some o → (∀ xs, o ≠ .lst xs) → (∀ kvs, o ≠ .dK kvs) → H' a = some o
theorem same_t {H H' : Hp} (s : Same H H') : SameT H H' := fun a o h _ _ => s a o h
theorem SameT.trans {H H1 H2 : Hp} (a : SameT H H1) (b : SameT H1 H2) : SameT H H2 := fun c o h n m => b c o (a c o h n m) n m
theorem SameT.lst {H : Hp} {l : Addr} {xs : List V} {u : HO} (h : H l = some (.lst xs)) : SameT H (upd H l u) := fun a o e n _ => by
  by_cases z : a = l
  · subst z; rw [h] at e; cases e; exact absurd rfl (n xs)
  · exact (upd_ne z).trans e
theorem SameT.sqt {K : PySem.W.Frag} {H H' : Hp} {a : Addr} {xs : List V} (s : SameT H H') (h : SqT K H a xs) : SqT K H' a xs := by
  rcases h with (h | ⟨o, h⟩) | h
  · exact .inl (.inl (s _ _ h (fun _ => nofun) fun _ => nofun))
  · exact .inl (.inr ⟨o, s _ _ h (fun _ => nofun) fun _ => nofun⟩)
  · exact .inr h
theorem sqt_same {K : PySem.W.Frag} {H H' : Hp} {a : Addr} {xs : List V} (s : Same H H') (h : SqT K H a xs) : SqT K H' a xs := (same_t s).sqt h
/-! ### data -/
mutual
theorem dp_same {K : PySem.W.Frag} {H H' : Hp} (s : Same H H') : ∀ {v : V} {d : PyData}, Dp K H v d → Dp K H' v d
  | _, _, .non => .non
  | _, _, .bl b => .bl b
  | _, _, .int i => .int i
  | _, _, .str x => .str x
  | _, _, .lst h r => .lst (s.seq h) (dps_same s r)
  | _, _, .tup h r => .tup (sqt_same s h) (dps_same s r)
theorem dps_same {K : PySem.W.Frag} {H H' : Hp} (s : Same H H') : ∀ {vs : List V} {ds : List PyData}, DpAll K H vs ds → DpAll K H' vs ds
  | _, _, .nil => .nil
  | _, _, .cons h r => .cons (dp_same s h) (dps_same s r)
end
mutual
/-- no list within -/
def flatD : PyData → Bool
  | .list _ => false
  | .dict _ => false
  | .tuple ds => flatDs ds
  | _ => true
def flatDs : List PyData → Bool
  | [] => true
  | d :: r => flatD d && flatDs r
end
mutual
theorem dp_flat {K : PySem.W.Frag} {H H' : Hp} (s : SameT H H') : ∀ {v : V} {d : PyData}, Dp K H v d → flatD d = true → Dp K H' v d
  | _, _, .non, _ => .non
  | _, _, .bl b, _ => .bl b
  | _, _, .int i, _ => .int i
  | _, _, .str x, _ => .str x
  | _, _, .lst h r, f => by simp [flatD] at f
  | _, _, .tup h r, f => .tup (s.sqt h) (dps_flat s r (by simpa [flatD] using f))
theorem dps_flat {K : PySem.W.Frag} {H H' : Hp} (s : SameT H H') : ∀ {vs : List V} {ds : List PyData}, DpAll K H vs ds → flatDs ds = true → DpAll K H' vs ds
  | _, _, .nil, _ => .nil
  | _, _, .cons h r, f => by
    have f2 := Bool.and_eq_true_iff.mp (show (flatD _ && flatDs _) = true from f)
    exact .cons (dp_flat s h f2.1) (dps_flat s r f2.2)
end
section
variable {K : PySem.W.Frag} {H : Hp}
end
/-! ### readings, one step at a time -/
section
variable {σ : L2.St} {H : Hp} {Q : VK} {QB : Bool → Hp → Prop} {QA : List V → Hp → Prop} {QO : Option Int → Hp → Prop} {ta tb tc te : TE} {tt tu : TT} {tr : TA} {D : Ends} {s t u : TS} {g : TG} {gs : TGs} {r r' : R2} {v x y : V} {E : XK} {sp : Sp}
def AllocT (xs : List V) (H : Hp) (Q : VK) : Prop := xs.length ≤ sizeLine ∧ ∀ p, H p = none → Q (.ref p) (upd H p (.tup xs))
def AllocL (xs : List V) (H : Hp) (Q : VK) : Prop := xs.length ≤ sizeLine ∧ ∀ p, H p = none → Q (.ref p) (upd H p (.lst xs))
def BlC (H : Hp) (v : V) (k : Bool → Prop) : Prop := ∃ c, v = .bl c ∧ k c
/-! methods of built-ins -/
end
end TP

namespace PySem
open Sem (wp)
end PySem
namespace TP
open PySem PySem.Spec PyProof.Rows L2
/-! ### enumerate of a tuple -/
def IteT (K : PySem.W.Frag) (a : Addr) : It :=
  ⟨fun i H => ∃ xs x, SqT K H a xs ∧ xs[i]? = some x, fun i H v H' => ∃ T x, v = .ref T ∧ H T = none ∧ H' = upd H T (.tup [.int (i : Nat), x]) ∧ ∀ xs, SqT K H a xs → xs[i]? = some x, fun i H => ∃ xs, SqT K H a xs ∧ xs.length = i⟩
def iEnumT (K : PySem.W.Frag) (ta : TA) : TI := fun σ H R => ta σ H fun vs H1 => ∃ a xs, vs = [.ref a] ∧ SqT K H1 a xs ∧ R (IteT K a) H1
end TP

namespace TP
open PySem PySem.Spec PyProof.Rows L2
/-! ### repr -/
mutual
/-- a bound of the shown text; 0 is never one -/
def rb : PyData → Nat
  | .none => 5
  | .bool _ => 5
  | .int _ => 1921
  | .str x => 10 * x.length + 2
  | .list ds => rbs ds + 2
  | .tuple ds => rbs ds + 3
  | .dict _ => 0
def rbs : List PyData → Nat
  | [] => 0
  | d :: r => rb d + 2 + rbs r
end
mutual
/-- ints of at most 1920 bits, texts of plain codes, no dict -/
def okD : PyData → Bool
  | .none => true
  | .bool _ => true
  | .int i => decide (i.natAbs.log2 < 1920)
  | .str x => x.cps.toList.all fun c => decide (c < 16 ^ 8)
  | .list ds => okDs ds
  | .tuple ds => okDs ds
  | .dict _ => false
def okDs : List PyData → Bool
  | [] => true
  | d :: r => okD d && okDs r
end
theorem str_app_len (a b : Str) : (a ++ b).length = a.length + b.length := PySem.Str.length_append a b
theorem textFrom_le : ∀ (ts : List Str) (k : Nat) (acc : Str), (textFrom k acc ts).length ≤ acc.length + (ts.map fun t => t.length + 2).sum
  | [], k, acc => by simp [textFrom]
  | t :: r, k, acc => by
    have ih := textFrom_le r (k + 1) (acc ++ (if k > 0 then ", " else "" : String) ++ t)
    rw [str_app_len, str_app_len] at ih
    have e : (Str.ofString (if k > 0 then ", " else "" : String)).length ≤ 2 := by
      by_cases h : k > 0
      · rw [if_pos h]; decide
      · rw [if_neg h]; decide
    simp only [List.map_cons, List.sum_cons]
    show (textFrom (k + 1) _ r).length ≤ _
    omega
mutual
theorem shown_le : ∀ d : PyData, okD d = true → d.shown.length ≤ rb d
  | .none, _ => by simp only [PyData.shown, rb]; decide
  | .bool b, _ => by cases b <;> simp only [PyData.shown, rb] <;> decide
  | .int i, h => by
    have h' : i.natAbs.log2 < 1920 := of_decide_eq_true (by simpa [okD] using h)
    simp only [PyData.shown, rb]
    exact int_text_len_1921 h'
  | .str x, h => by
    simp only [PyData.shown, rb]
    refine PySem.StrLaws.reprText_len x fun c hc => ?_
    have h' := List.all_eq_true.mp (by simpa only [okD] using h) c hc
    exact of_decide_eq_true h'
  | .list ds, h => by
    have ih := shownAll_le ds (by simpa [okD] using h)
    simp only [PyData.shown, rb, listText]
    have h1 := textFrom_le (PyData.shownAll ds) 0 "["
    rw [str_app_len]
    have e1 : (Str.ofString "[").length = 1 := by decide
    have e2 : (Str.ofString "]").length = 1 := by decide
    rw [e1] at h1
    rw [e2]
    omega
  | .tuple ds, h => by
    have ih := shownAll_le ds (by simpa [okD] using h)
    simp only [PyData.shown, rb, tupleText]
    rw [str_app_len, str_app_len]
    have h1 := StrLaws.join_length_le (Str.ofString ", ") (PyData.shownAll ds)
    have e0 : (Str.ofString ", ").length = 2 := by decide
    rw [e0] at h1
    have e1 : (Str.ofString "(").length = 1 := by decide
    have e2 : (Str.ofString (if ((PyData.shownAll ds).length == 1) = true then ",)" else ")")).length ≤ 2 := by
      by_cases z : ((PyData.shownAll ds).length == 1) = true
      · rw [if_pos z]; decide
      · rw [if_neg z]; decide
    have e3 : ((PyData.shownAll ds).map fun t => t.length + 2).sum = ((PyData.shownAll ds).map (·.length)).sum + (PyData.shownAll ds).length * 2 := by
      generalize PyData.shownAll ds = l
      induction l with
      | nil => rfl
      | cons a r ih2 => simp only [List.map_cons, List.sum_cons, List.length_cons]; omega
    rw [e1]
    omega
  | .dict _, h => by simp [okD] at h
theorem shownAll_le : ∀ ds : List PyData, okDs ds = true → ((PyData.shownAll ds).map fun t => t.length + 2).sum ≤ rbs ds
  | [], _ => by simp [PyData.shownAll, rbs]
  | d :: r, h => by
    have h' := Bool.and_eq_true_iff.mp (show (okD d && okDs r) = true from h)
    have h1 := shown_le d h'.1
    have h2 := shownAll_le r h'.2
    simp only [PyData.shownAll, rbs, List.map_cons, List.sum_cons]
    omega
end
mutual
theorem showable_of : ∀ d : PyData, okD d = true → d.showable = true ∧ d.hasDict = false
  | .none, _ => by simp [PyData.showable, PyData.hasDict]
  | .bool b, _ => by simp [PyData.showable, PyData.hasDict]
  | .int i, h => by simp only [PyData.showable, PyData.hasDict]; exact ⟨by simpa [okD] using h, trivial⟩
  | .str x, _ => by simp [PyData.showable, PyData.hasDict]
  | .list ds, h => by
    have ih := showables_of ds (by simpa [okD] using h)
    simp only [PyData.showable, PyData.hasDict]; exact ih
  | .tuple ds, h => by
    have ih := showables_of ds (by simpa [okD] using h)
    simp only [PyData.showable, PyData.hasDict]; exact ih
  | .dict _, h => by simp [okD] at h
theorem showables_of : ∀ ds : List PyData, okDs ds = true → PyData.showableAll ds = true ∧ PyData.hasDictAll ds = false
  | [], _ => by simp [PyData.showableAll, PyData.hasDictAll]
  | d :: r, h => by
    have h' := Bool.and_eq_true_iff.mp (show (okD d && okDs r) = true from h)
    have h1 := showable_of d h'.1
    have h2 := showables_of r h'.2
    simp [PyData.showableAll, PyData.hasDictAll, h1, h2]
end
/-- what may be shown -/
structure Shows (d : PyData) : Prop where
  ok : okD d = true
  len : rb d ≤ 16777216
  deep : d.depth ≤ 60
def rRepr (K : PySem.W.Frag) : List V → Hp → VK → Prop := fun xs H Q => ∃ v d, xs = [v] ∧ Dp K H v d ∧ Shows d ∧ Q (.str d.shown) H
/-! ### isinstance -/
def tyD : PyData → String
  | .none => "NoneType"
  | .bool _ => "bool"
  | .int _ => "int"
  | .str _ => "str"
  | .list _ => "list"
  | .tuple _ => "tuple"
  | .dict _ => "dict"
/-! ### a text times a number -/
def repS (n : Nat) (x : Str) : Str := ⟨((List.replicate n x.cps.toList).flatten).toArray⟩
end TP

namespace TP
open PySem PySem.Spec PyProof.Rows L2
/-! ### a pool of draws: a list of three ints, known only so far as every draw keeps it -/
def PoolV (s d c : Int) : Prop := 0 ≤ s ∧ s < 1000000007 ∧ 0 ≤ d ∧ 0 ≤ c
def PoolAt (p : Addr) (h : Heap) : Prop := ∃ (s d c : Int) (its : List Value) (n : Nat), Vals [.int s, .int d, .int c] its ∧ PoolV s d c ∧ h.get? p = some { cls := .type "list", data := .seq its.toArray n }
def poolO (p : Addr) : HO := .ext (PoolAt p)
section
variable {P : Program} {w : World} {H H0 : Hp} {h h' : Heap} {p : Addr}
end
/-- draw(pool, many), by what stands in the list -/
def spDrawC : Sp := fun vs H Q _ => ∃ (p : Addr) (s d c m : Int), vs = [.ref p, .int m] ∧ H p = some (.lst [.int s, .int d, .int c]) ∧ PoolV s d c ∧ 0 < m ∧ m < 2 ^ 200 ∧
  ∀ (r s' d' c' : Int) (H' : Hp), 0 ≤ r → r < m → SameB p H H' → H' p = some (.lst [.int s', .int d', .int c']) → PoolV s' d' c' → Q (.int r) H'
/-- .. by what may be known of it -/
def spDraw : Sp := fun vs H Q _ => ∃ (p : Addr) (m : Int), vs = [.ref p, .int m] ∧ H p = some (poolO p) ∧ 0 < m ∧ m < 2 ^ 200 ∧
  ∀ (r : Int) (H' : Hp), 0 ≤ r → r < m → Same H H' → Q (.int r) H'
def spPoolC : Sp := fun vs H Q _ => ∃ n : Int, vs = [.int n] ∧ ∀ (p : Addr) (s d c : Int) (H' : Hp), H p = none → Same H H' → H' p = some (.lst [.int s, .int d, .int c]) → PoolV s d c → Q (.ref p) H'
def spPool : Sp := fun vs H Q _ => ∃ n : Int, vs = [.int n] ∧ ∀ (p : Addr) (H' : Hp), H p = none → Same H H' → H' p = some (poolO p) → Q (.ref p) H'
section
variable {P : Program} {w : World} {K : PySem.W.Frag} {mg : Str → Option Value} {base : Heap} {k : Nat} {f : Addr} {fd : FuncData} {ps : List Str}
end
section
variable {P : Program} {w : World} {K : PySem.W.Frag} {mg : Str → Option Value} {base : Heap} {k : Nat} {x : Str} {st : Stmt} {ps : List Str}
end
/-! ### loops and comprehensions over what is walked -/
section
variable {J : It} {n : Nat} {G : Hp → Prop} {Y : Nat → Hp → V → Hp → Prop} {g : TG} {tt : TT} {te : TE} {vs : List Nat} {σ : L2.St} {H1 : Hp} {D : Addr} {Q : VK}
end
end TP

namespace TP
open PySem PySem.Spec PyProof.Rows L2
/-! ### loops and comprehensions, in parts -/
def ForOk (J : It) (g : TG) (tb : TS) (D : Ends) (σ : L2.St) (H : Hp) : Prop := ∃ W : Nat → Nat → L2.St → Hp → Prop, (∃ m, W 0 m σ H) ∧ ∀ i m σ H, W i m σ H →
  (J.stop i H ∧ D.nx σ H) ∨ (J.go i H ∧ ∃ N : L2.St → Hp → Prop, (∀ σ' H', N σ' H' → ∃ m', m' < m ∧ W (i + 1) m' σ' H') ∧ ∀ x H', J.yld i H x H' → g x σ H' fun σ2 H2 => tb { D with nx := N, ct := N, bk := D.nx } σ2 H2)
def LcI (H1 : Hp) (D : Addr) (Acc : Nat → List V → Hp → Prop) (i : Nat) (H : Hp) : Prop := ∃ acc, Same H1 H ∧ H D = some (.lst acc) ∧ acc.length ≤ i ∧ Acc i acc H
def LcY (H1 : Hp) (D : Addr) (Acc : Nat → List V → Hp → Prop) (i : Nat) (y : V) (H : Hp) : Prop := ∃ acc, H D = some (.lst acc) ∧ acc.length < sizeLine ∧ LcI H1 D Acc (i + 1) (upd H D (.lst (acc ++ [y])))
def LcOk (J : It) (g : TG) (tt : TT) (te : TE) (vs : List Nat) (σ : L2.St) (H1 : Hp) (D : Addr) (Q : VK) : Prop := ∃ W : Nat → Nat → Hp → Prop, (∃ m, W 0 m (upd H1 D (.lst []))) ∧ ∀ i m H, W i m H →
  (J.stop i H ∧ Q (.ref D) H) ∨ (J.go i H ∧ ∃ Nx : Hp → Prop, (∀ H', Nx H' → ∃ m', m' < m ∧ W (i + 1) m' H') ∧ ∀ x H', J.yld i H x H' → g x (wipe σ vs) H' fun σ2 H2 => wipe σ2 vs = wipe σ vs ∧ tt σ2 H2 fun b H3 =>
    if b = true then te σ2 H3 fun y H4 => ∃ acc, H4 D = some (.lst acc) ∧ acc.length < sizeLine ∧ Nx (upd H4 D (.lst (acc ++ [y]))) else Nx H3)
section
variable {J : It} {n : Nat} {G : Hp → Prop} {Y : Nat → Hp → V → Hp → Prop} {g : TG} {tt : TT} {te : TE} {tb : TS} {De : Ends} {wi : TI} {vs : List Nat} {σ : L2.St} {H H1 H2 : Hp} {D : Addr} {Q : VK} {Acc : Nat → List V → Hp → Prop} {K : PySem.W.Frag}
/-! what is walked -/
def OnT (K : PySem.W.Frag) (R : It → Hp → Prop) (v : V) (H : Hp) : Prop := ∃ a, v = .ref a ∧ (∃ xs, SqT K H a xs) ∧ R (Itt K a) H
def OnL (K : PySem.W.Frag) (R : It → Hp → Prop) (v : V) (H : Hp) : Prop := ∃ a, v = .ref a ∧ (∃ xs, SqL K H a xs) ∧ R (Itl K a) H
def OnS (R : It → Hp → Prop) (v : V) (H : Hp) : Prop := ∃ x, v = .str x ∧ R (Its x) H
def OnR1 (R : It → Hp → Prop) (vs : List V) (H : Hp) : Prop := ∃ j : Int, vs = [.int j] ∧ -(2 ^ 62) ≤ j ∧ j < 2 ^ 62 ∧ R (Itr 0 j.toNat) H
def OnR2 (R : It → Hp → Prop) (vs : List V) (H : Hp) : Prop := ∃ i j : Int, vs = [.int i, .int j] ∧ (-(2 ^ 62) ≤ i ∧ i < 2 ^ 62 ∧ -(2 ^ 62) ≤ j ∧ j < 2 ^ 62) ∧ R (Itr i (j - i).toNat) H
def OnE (K : PySem.W.Frag) (R : It → Hp → Prop) (vs : List V) (H : Hp) : Prop := ∃ a xs, vs = [.ref a] ∧ SqT K H a xs ∧ R (IteT K a) H
variable {R : It → Hp → Prop} {ta : TA} {a : Addr} {xs : List V}
end
/-! ### built-ins, their readings by names -/
def rLenV (K : PySem.W.Frag) : List V → Hp → VK → Prop := fun xs H Q => ∃ x n, xs = [x] ∧ LenV K x H n ∧ Q (.int n) H
def rAbs : List V → Hp → VK → Prop := fun xs H Q => ∃ i, xs = [.int i] ∧ Q (.int (if i < 0 then -i else i)) H
def rMx2 : List V → Hp → VK → Prop := fun xs H Q => ∃ i j, xs = [.int i, .int j] ∧ Q (.int (if j > i then j else i)) H
def rMn2 : List V → Hp → VK → Prop := fun xs H Q => ∃ i j, xs = [.int i, .int j] ∧ Q (.int (if j < i then j else i)) H
def rInt1 : List V → Hp → VK → Prop := fun xs H Q => (∃ i, xs = [.int i] ∧ Q (.int i) H) ∨ ∃ k, xs = [.bl k] ∧ Q (.int (if k then 1 else 0)) H
def rListS (K : PySem.W.Frag) : List V → Hp → VK → Prop := fun xs H Q => ∃ p ys, xs = [.ref p] ∧ (SqL K H p ys ∨ SqT K H p ys) ∧ ∀ l, H l = none → Q (.ref l) (upd H l (.lst ys))
def rTupS (K : PySem.W.Frag) : List V → Hp → VK → Prop := fun xs H Q => ∃ p ys, xs = [.ref p] ∧ ((SqL K H p ys ∧ ∀ l, H l = none → Q (.ref l) (upd H l (.tup ys))) ∨ (SqT K H p ys ∧ Q (.ref p) H))
def rDivW : List V → Hp → VK → Prop := fun xs H Q => ∃ i j, xs = [.int i, .int j] ∧ CDivP i j ∧ ∀ p, H p = none → Q (.ref p) (upd H p (.tup [.int (i / j), .int (i % j)]))
def rInSign : R2 := fun x y H Q => ∃ (c : Nat) (z : Str), x = .str ⟨#[c]⟩ ∧ y = .str z ∧ Q (.bl (decide (c ∈ z.cps.toList))) H
def rNotInSign : R2 := fun x y H Q => ∃ (c : Nat) (z : Str), x = .str ⟨#[c]⟩ ∧ y = .str z ∧ Q (.bl (!decide (c ∈ z.cps.toList))) H
def rIsN : R2 := fun x y H Q => y = .non ∧ Q (.bl (decide (x = .non))) H
def rNotN : R2 := fun x y H Q => y = .non ∧ Q (.bl (!decide (x = .non))) H
def rLtS : R2 := fun x y H Q => ∃ i j, x = .str i ∧ y = .str j ∧ Q (.bl (decide (i.cps.toList < j.cps.toList))) H
def rLeS : R2 := fun x y H Q => ∃ i j, x = .str i ∧ y = .str j ∧ Q (.bl (!decide (j.cps.toList < i.cps.toList))) H
def rAddS : R2 := fun x y H Q => ∃ i j, x = .str i ∧ y = .str j ∧ i.length + j.length ≤ sizeLine ∧ Q (.str (i ++ j)) H
def rMulS : R2 := fun x y H Q => ∃ (z : Str) (n : Nat), x = .str z ∧ y = .int (n : Nat) ∧ z.length * n ≤ 100000 ∧ n ≤ 100000 ∧ Q (.str (repS n z)) H
def rJoin (K : PySem.W.Frag) : V → List V → Hp → VK → Prop := fun x xs H Q => ∃ a p, ∃ ys : List Str, x = .str a ∧ xs = [.ref p] ∧ (SqL K H p (ys.map V.str) ∨ SqT K H p (ys.map V.str)) ∧ (ys.map (·.length)).sum + ys.length * a.length ≤ 16777216 ∧ Q (.str (Txt.join a ys)) H
section
variable {X : Cx}
end
section
variable {σ : L2.St} {H : Hp} {Q : VK} {K : PySem.W.Frag} {v x y : V} {a p : Addr} {xs ys : List V}
end
end TP

namespace TP
open PySem PySem.Spec PyProof.Rows L2
/-- the built-in names that the module leaves free -/
structure Fre (mg : Str → Option Value) : Prop where
  len_ : mg "len" = none
  isinstance_ : mg "isinstance" = none
  range_ : mg "range" = none
  enumerate_ : mg "enumerate" = none
  zip_ : mg "zip" = none
  reversed_ : mg "reversed" = none
  int_ : mg "int" = none
  str_ : mg "str" = none
  bool_ : mg "bool" = none
  tuple_ : mg "tuple" = none
  list_ : mg "list" = none
  dict_ : mg "dict" = none
  bytes_ : mg "bytes" = none
  set_ : mg "set" = none
  sum_ : mg "sum" = none
  all_ : mg "all" = none
  any_ : mg "any" = none
  abs_ : mg "abs" = none
  min_ : mg "min" = none
  max_ : mg "max" = none
  sorted_ : mg "sorted" = none
  repr_ : mg "repr" = none
  divmod_ : mg "divmod" = none
  type_ : mg "type" = none
  map_ : mg "map" = none
  iter_ : mg "iter" = none
  next_ : mg "next" = none
/-! ### small steps -/
section
variable {σ : L2.St} {H : Hp} {Q : VK} {QO : Option Int → Hp → Prop} {tr tk : TA} {te : TE} {D : Ends} {sp : Sp} {E : XK}
def Par2 (k : V → V → Prop) (vs : List V) : Prop := ∃ v w, vs = [v, w] ∧ k v w
def Par3 (k : V → V → V → Prop) (vs : List V) : Prop := ∃ u v w, vs = [u, v, w] ∧ k u v w
def IntC (x : V) (k : Int → Prop) : Prop := ∃ i, x = .int i ∧ k i
def KwC (n m : Nat) (g : {α : Type} → List α → List α → List α) (vs zs : List V) (k : List V → Prop) : Prop := vs.length = n ∧ zs.length = m ∧ k (g vs zs)
end
end TP

namespace TP
open PySem PySem.Spec PyProof.Rows L2
/-! ### kinds of data -/
def wholeD : PyData → Bool
  | .int _ => true
  | _ => false
def isIntD : PyData → Bool
  | .int _ => true
  | .bool _ => true
  | _ => false
def isBoolD : PyData → Bool
  | .bool _ => true
  | _ => false
def isStrD : PyData → Bool
  | .str _ => true
  | _ => false
def isTupD : PyData → Bool
  | .tuple _ => true
  | _ => false
mutual
/-- texts of at most 100000 signs -/
def szD : PyData → Bool
  | .str x => decide (x.length ≤ 100000)
  | .list ds => szDs ds
  | .tuple ds => szDs ds
  | _ => true
def szDs : List PyData → Bool
  | [] => true
  | d :: r => szD d && szDs r
end
def letters : Str := "abcdefghijklmnopqrstuvwxyz"
def isLet (c : Nat) : Bool := decide (97 ≤ c) && decide (c ≤ 122)
def isName (x : Str) : Bool := decide (0 < x.length) && (decide (x.length < 9) && x.cps.toList.all isLet)
def nameD : PyData → Bool
  | .str x => isName x
  | _ => false
def fromD (d : PyData) (j : Int) : Bool := match d with
  | .int i => decide (j ≤ i)
  | _ => false
def runD : PyData → Bool
  | .tuple [a, b] => nameD a && fromD b 1
  | _ => false
/-- the name of a pair -/
def nmD : PyData → Str
  | .tuple (.str x :: _) => x
  | _ => Str.empty
def ltS (x y : Str) : Prop := x.cps.toList < y.cps.toList
instance (x y : Str) : Decidable (ltS x y) := inferInstanceAs (Decidable (x.cps.toList < y.cps.toList))
/-- the element at i is bad: too many, no run, or not behind the one before -/
def badAt (ds : List PyData) (m : Int) (i : Nat) : Bool := decide (m ≤ (i : Int)) || (!runD (ds.getD i .none) || (decide (0 < i) && !decide (ltS (nmD (ds.getD (i - 1) .none)) (nmD (ds.getD i .none)))))
def firstBad (ds : List PyData) (m : Int) : Option Nat := (List.range ds.length).find? (badAt ds m)
def optV : Option Nat → V
  | none => .non
  | some i => .int (i : Nat)
def countsD : PyData → Bool
  | .tuple ds => (firstBad ds 12).isNone
  | _ => false
/-! ### bags: pairs of a name and a number -/
abbrev Bag := List (Str × Int)
def pairD (p : Str × Int) : PyData := .tuple [.str p.1, .int p.2]
def bagD (ps : Bag) : PyData := .tuple (ps.map pairD)
def sumC (ps : Bag) : Int := (ps.map (·.2)).sum
/-- counts: names that ascend, numbers from 1 on -/
structure BagOk (ps : Bag) : Prop where
  asc : ps.Pairwise fun a b => ltS a.1 b.1
  nam : ∀ p ∈ ps, isName p.1 = true
  pos : ∀ p ∈ ps, 1 ≤ p.2
/-! the pairs in the heap -/
section
variable {K : PySem.W.Frag} {H : Hp}
end
/-! tables -/
def getT (t : Bag) (n : Str) : Int := ((t.find? fun p => decide (p.1 = n)).map (·.2)).getD 0
def putT (t : Bag) (n : Str) (c : Int) : Bag := if (t.any fun p => decide (p.1 = n)) = true then t.map (fun p => if p.1 = n then (p.1, c) else p) else t ++ [(n, c)]
def addT (t : Bag) (p : Str × Int) : Bag := putT t p.1 (getT t p.1 + p.2)
def tabOf (ps : Bag) : Bag := ps.foldl addT []
def kvOf (t : Bag) : List (Key × V) := t.map fun p => (Sum.inr p.1, V.int p.2)
/-- what a table holds of a name, and what was put in -/
def cntC (ps : Bag) (n : Str) : Int := ((ps.filter fun p => decide (p.1 = n)).map (·.2)).sum
end TP

namespace TP
open PySem PySem.Spec PyProof.Rows L2
/-! ### names that are drawn -/
/-- a text of letters -/
def lets (x : Str) : Prop := ∀ c ∈ x.cps.toList, isLet c = true
def menuW : List Str := ["more", "less", "sum", "few", "many", "gain", "columns", "range", "order", "merge", "a", "b", "c", "x", "y"]
def wordA (b i : Nat) : Str := menuW.getD ((b + 4 * i) % 15) Str.empty
def wordB (b i : Nat) : Str := repS (1 + i % 8) ⟨#[97 + (b + 7 * i) % 26]⟩
def wordC (b : Nat) (l r : List Nat) (i : Nat) : Str := ⟨(l ++ (97 + (b + 5 * i) % 26) :: r).toArray⟩
/-- names that differ -/
structure WordsOk (ws : List Str) (n : Nat) : Prop where
  len : ws.length = n
  nd : ws.Nodup
  nam : ∀ w ∈ ws, isName w = true
/-! ### the order of texts -/
end TP

namespace TP
open PySem PySem.Spec PyProof.Rows L2
/-! ### the rules with the written part told -/
section
variable {X : Cx} (K : PySem.W.Frag)
variable {o e a b : Expr} {to te ta tb : TE} {apos cpos pos p tpos : Pos} {es : List Expr} {t : TA} {tg : Expr} {rest : List Expr}
end
/-! ### comprehensions of scalars, with or without a test -/
section
variable {J : It} {n : Nat} {G : Hp → Prop} {Y : Nat → Hp → V → Hp → Prop} {g : TG} {tt : TT} {te : TE} {vs : List Nat} {σ : L2.St} {H1 : Hp} {D : Addr} {Q : VK} {α : Type}
end
/-! ### comprehensions of data -/
section
variable {J : It} {n : Nat} {G : Hp → Prop} {Y : Nat → Hp → V → Hp → Prop} {g : TG} {te : TE} {vs : List Nat} {σ : L2.St} {H1 : Hp} {D : Addr} {Q : VK} {K : PySem.W.Frag}
end
/-! ### what bags show -/
/-- names and numbers that can be shown -/
def BagS (ps : Bag) : Prop := ∀ p ∈ ps, isName p.1 = true ∧ 0 ≤ p.2 ∧ p.2 ≤ 10 ^ 100
theorem BagOk.s {ps : Bag} (h : BagOk ps) (hc : ∀ p ∈ ps, p.2 ≤ 10 ^ 100) : BagS ps := fun p hp => ⟨h.nam p hp, by have := h.pos p hp; omega, hc p hp⟩
/-- the signs of a text, each a text -/
def signs1 (x : Str) : List Str := x.cps.toList.map fun c => ⟨#[c]⟩
/-! ### the end: the law's own function object -/
end TP

namespace TP
open PySem PySem.Spec PyProof.Rows L2
/-! ### t[::c] of a tuple -/
def stepLo (c : Int) (n : Nat) : Int := if c < 0 then (n : Int) - 1 else 0
def stepHi (c : Int) (n : Nat) : Int := if c < 0 then -1 else (n : Int)
def stepIx (c : Int) (n : Nat) : List Nat := (List.range (Builtin.Slice.slicePlaces (stepLo c n) (stepHi c n) c)).map fun (k : Nat) => (stepLo c n + (k : Int) * c).toNat
def stepL {α : Type} (c : Int) (xs : List α) : List α := (stepIx c xs.length).filterMap fun k => xs[k]?
section
variable {prog : Program} {w : World} {A : Around} {E : Value → Shared → Prop} {s : Shared}
end
def tStepT (K : PySem.W.Frag) (c : Int) (te : TE) : TE := fun σ H Q => te σ H fun x H1 => ∃ a xs, x = .ref a ∧ SqT K H1 a xs ∧ (stepL c xs).length ≤ sizeLine ∧ ∀ p, H1 p = none → Q (.ref p) (upd H1 p (.tup (stepL c xs)))
section
variable {X : Cx} {e : Expr} {te : TE} {k : Nat} {p1 p2 p3 pos : Pos} (K : PySem.W.Frag)
end
/-! ### comprehensions of data, with a test -/
section
variable {J : It} {n : Nat} {G : Hp → Prop} {Y : Nat → Hp → V → Hp → Prop} {g : TG} {tt : TT} {te : TE} {vs : List Nat} {σ : L2.St} {H1 : Hp} {D : Addr} {Q : VK} {α : Type}
end
/-! ### the one ascending bag of given counts -/
structure IsCan (f : Str → Int) (ps : Bag) : Prop where
  asc : ps.Pairwise fun a b => ltS a.1 b.1
  pos : ∀ p ∈ ps, 0 < p.2
  cnt : ∀ n, getT ps n = f n
/-! ### the different names, in the order in which they come -/
def addN (l : List Str) (n : Str) : List Str := if n ∈ l then l else l ++ [n]
def namesOf (ns : List Str) : List Str := ns.foldl addN []
def kvN (l : List Str) : List (Key × V) := l.map fun n => (Sum.inr n, V.bl true)
theorem addN_len (l : List Str) (n : Str) : (addN l n).length ≤ l.length + 1 ∧ l.length ≤ (addN l n).length := by
  unfold addN
  split <;> simp
theorem addN_mem {l : List Str} {n x : Str} : x ∈ addN l n ↔ x ∈ l ∨ x = n := by
  unfold addN
  split
  · rename_i h
    exact ⟨.inl, fun z => z.elim id fun e => e ▸ h⟩
  · simp
theorem addN_nodup {l : List Str} {n : Str} (h : l.Nodup) : (addN l n).Nodup := by
  unfold addN
  split
  · exact h
  · rename_i hn
    rw [List.nodup_append]
    exact ⟨h, by simp, fun a ha b hb e => by rw [List.mem_singleton] at hb; subst hb; exact hn (e ▸ ha)⟩
theorem namesOf_aux : ∀ (ns acc : List Str), acc.Nodup → (ns.foldl addN acc).Nodup ∧ (∀ x, x ∈ ns.foldl addN acc ↔ x ∈ acc ∨ x ∈ ns) ∧ acc.length ≤ (ns.foldl addN acc).length ∧ (ns.foldl addN acc).length ≤ acc.length + ns.length
  | [], acc, h => ⟨h, by simp, by simp, by simp⟩
  | n :: r, acc, h => by
    obtain ⟨h1, h2, h3, h4⟩ := namesOf_aux r (addN acc n) (addN_nodup h)
    have hl := addN_len acc n
    refine ⟨h1, fun x => ?_, by simp only [List.foldl_cons]; omega, by simp only [List.foldl_cons, List.length_cons]; omega⟩
    rw [List.foldl_cons, h2, addN_mem, List.mem_cons, or_assoc]
theorem namesOf_nodup (ns : List Str) : (namesOf ns).Nodup := (namesOf_aux ns [] List.nodup_nil).1
theorem namesOf_mem {ns : List Str} {x : Str} : x ∈ namesOf ns ↔ x ∈ ns := by have := (namesOf_aux ns [] List.nodup_nil).2.1 x; simpa [namesOf] using this
theorem nodup_sub_len {α : Type} [DecidableEq α] : ∀ {a b : List α}, a.Nodup → (∀ x ∈ a, x ∈ b) → a.length ≤ b.length
  | [], b, _, _ => Nat.zero_le _
  | x :: r, b, nd, h => by
    have nd' := List.nodup_cons.mp nd
    have hx := h x List.mem_cons_self
    have := nodup_sub_len (b := b.erase x) nd'.2 fun y hy => (List.mem_erase_of_ne fun e : y = x => nd'.1 (by rw [← e]; exact hy)).mpr (h y (List.mem_cons_of_mem _ hy))
    rw [List.length_erase_of_mem hx] at this
    have : 0 < b.length := List.length_pos_of_mem hx
    simp only [List.length_cons]; omega
/-! ### orders -/
def noOrdAt (ds : List PyData) (i : Nat) : Bool := decide (1000 ≤ i) || (!runD (ds.getD i .none) || decide (12 < (namesOf ((ds.take (i + 1)).map nmD)).length))
def firstNo (ds : List PyData) : Option Nat := (List.range ds.length).find? (noOrdAt ds)
def orderD : PyData → Bool
  | .tuple ds => (firstNo ds).isNone
  | _ => false
structure OrdOk (ps : Bag) : Prop where
  nam : ∀ p ∈ ps, isName p.1 = true
  pos : ∀ p ∈ ps, 1 ≤ p.2
  len : ps.length ≤ 1000
  few : (namesOf (ps.map (·.1))).length ≤ 12
theorem OrdOk.s {ps : Bag} (h : OrdOk ps) (hc : ∀ p ∈ ps, p.2 ≤ 10 ^ 100) : BagS ps := fun p hp => ⟨h.nam p hp, by have := h.pos p hp; omega, hc p hp⟩
end TP

namespace TP
open PySem PySem.Spec PyProof.Rows L2
/-! ### len and sorted of a dict, d[k], the truth of a value, equality of data -/
def rLenD : List V → Hp → VK → Prop := fun xs H Q => ∃ a kvs, xs = [V.ref a] ∧ H a = some (.dK kvs) ∧ Q (.int kvs.length) H
def rSortedDk : List V → Hp → VK → Prop := fun xs H Q => ∃ (a : Addr) (kvs : List (Key × V)) (ks : List Str), xs = [.ref a] ∧ Rd H a (.dK kvs) ∧ kvs.map (·.1) = ks.map Sum.inr ∧ ks.length < 64 ∧
    ∀ ys p, ys.Perm ks → sortedS ys = true → H p = none → Q (.ref p) (upd H p (.lst (ys.map V.str)))
def tTru (K : PySem.W.Frag) (ta : TE) : TT := fun σ H Q => ta σ H fun x H' => ∃ k, TruV K x H' k ∧ Q k H'
def TruC (K : PySem.W.Frag) (x : V) (H : Hp) (k : Bool → Prop) : Prop := ∃ b, TruV K x H b ∧ k b
def DGetC (x y : V) (H : Hp) (Q : VK) : Prop := ∃ a v, x = .ref a ∧ DGet H a y (some v) ∧ Q v H
section
variable {K : PySem.W.Frag} {σ : L2.St} {H : Hp} {Q : VK} {te td ty : TE} {QB : Bool → Hp → Prop} {a : Addr} {xs : List V} {v w : V}
end
/-! ### lists that are the same, item by item -/
def SameV (K : PySem.W.Frag) (H : Hp) (x y : V) : Prop := (x = y ∧ flatB x = true) ∨ ∃ d, Dp K H x d ∧ Dp K H y d ∧ SeqAt.shaped d = true
inductive AllSame (K : PySem.W.Frag) (H : Hp) : List V → List V → Prop
  | nil : AllSame K H [] []
  | cons {x y : V} {xs ys : List V} : SameV K H x y → AllSame K H xs ys → AllSame K H (x :: xs) (y :: ys)
theorem AllSame.len {K : PySem.W.Frag} {H : Hp} : ∀ {xs ys : List V}, AllSame K H xs ys → xs.length = ys.length
  | _, _, .nil => rfl
  | _, _, .cons _ r => by rw [List.length_cons, List.length_cons, r.len]
def rNeL (K : PySem.W.Frag) : R2 := fun x y H Q => ∃ a b xs ys, x = .ref a ∧ y = .ref b ∧ SqL K H a xs ∧ SqL K H b ys ∧ AllSame K H xs ys ∧ Q (.bl false) H
def rEqL (K : PySem.W.Frag) : R2 := fun x y H Q => ∃ a b xs ys, x = .ref a ∧ y = .ref b ∧ SqL K H a xs ∧ SqL K H b ys ∧ AllSame K H xs ys ∧ Q (.bl true) H
section
variable {X : Cx} {pins : List (Addr × Obj)} {σ : L2.St} {H : Hp} {s : Shared}
def rNeE (K : PySem.W.Frag) : R2 := fun x y H Q => ∃ a b xs, x = .ref a ∧ y = .ref b ∧ SqL K H a xs ∧ SqL K H b [] ∧ Q (.bl (!xs.isEmpty)) H
def rEqE (K : PySem.W.Frag) : R2 := fun x y H Q => ∃ a b xs, x = .ref a ∧ y = .ref b ∧ SqL K H a xs ∧ SqL K H b [] ∧ Q (.bl xs.isEmpty) H
end
section
variable {K : PySem.W.Frag} {H : Hp} {Q : VK} {a b : Addr} {xs ys : List V}
end
/-! ### the table in the order of its names -/
def canF (f : Str → Int) (ys : List Str) : Bag := ys.filterMap fun y => if 0 < f y then some (y, f y) else none
def posI (i : Int) : Int := if 0 < i then i else 0
theorem IsCan.ok {f : Str → Int} {ps : Bag} (h : IsCan f ps) (hn : ∀ p ∈ ps, isName p.1 = true) : BagOk ps := ⟨h.asc, hn, fun p hp => by have := h.pos p hp; omega⟩
/-! ### sums and counts -/
theorem cntC_cons (p : Str × Int) (r : Bag) (n : Str) : cntC (p :: r) n = (if p.1 = n then p.2 else 0) + cntC r n := by
  unfold cntC
  by_cases e : p.1 = n
  · rw [List.filter_cons_of_pos (by simpa using e), List.map_cons, List.sum_cons, if_pos e]
  · rw [List.filter_cons_of_neg (by simpa using e), if_neg e]; omega
theorem sumC_cons (p : Str × Int) (r : Bag) : sumC (p :: r) = p.2 + sumC r := by unfold sumC; rw [List.map_cons, List.sum_cons]
/-! ### neighbouring runs of a name joined; the last run stands first -/
def jst (acc : Bag) (p : Str × Int) : Bag := match acc with
  | [] => [p]
  | q :: r => if q.1 = p.1 then (p.1, q.2 + p.2) :: r else p :: q :: r
def jrev (ps : Bag) : Bag := ps.foldl jst []
def joinR (ps : Bag) : Bag := (jrev ps).reverse
def Red : Bag → Prop
  | [] => True
  | p :: r => (∀ q, r.head? = some q → q.1 ≠ p.1) ∧ Red r
theorem jst_cnt (acc : Bag) (p : Str × Int) (n : Str) : cntC (jst acc p) n = cntC acc n + (if p.1 = n then p.2 else 0) := by
  cases acc with
  | nil => show cntC [p] n = _; rw [cntC_cons]; have : cntC [] n = 0 := rfl; omega
  | cons q r =>
    show cntC (if q.1 = p.1 then _ else _) n = _
    split
    · rename_i e
      rw [cntC_cons, cntC_cons]
      show (if p.1 = n then q.2 + p.2 else 0) + _ = _
      rw [e]
      split <;> omega
    · rw [cntC_cons]; omega
theorem jst_sum (acc : Bag) (p : Str × Int) : sumC (jst acc p) = sumC acc + p.2 := by
  cases acc with
  | nil => show sumC [p] = _; rw [sumC_cons]; have : sumC [] = 0 := rfl; omega
  | cons q r =>
    show sumC (if q.1 = p.1 then _ else _) = _
    split
    · rw [sumC_cons, sumC_cons]; show q.2 + p.2 + _ = _; omega
    · rw [sumC_cons]; omega
theorem jrev_aux : ∀ (ps acc : Bag), (∀ n, cntC (ps.foldl jst acc) n = cntC acc n + cntC ps n) ∧ sumC (ps.foldl jst acc) = sumC acc + sumC ps ∧ (ps.foldl jst acc).length ≤ acc.length + ps.length
  | [], acc => ⟨fun n => by have : cntC [] n = 0 := rfl; simp only [List.foldl_nil]; omega, by have : sumC [] = 0 := rfl; simp only [List.foldl_nil]; omega, by simp⟩
  | p :: r, acc => by
    obtain ⟨h1, h2, h3⟩ := jrev_aux r (jst acc p)
    have hl : (jst acc p).length ≤ acc.length + 1 := by
      cases acc with
      | nil => simp [jst]
      | cons q t => show (if q.1 = p.1 then _ else _ : Bag).length ≤ _; split <;> simp
    refine ⟨fun n => ?_, ?_, ?_⟩
    · rw [List.foldl_cons, h1, jst_cnt, cntC_cons]; omega
    · rw [List.foldl_cons, h2, jst_sum, sumC_cons]; omega
    · rw [List.foldl_cons, List.length_cons]; omega
theorem jrev_len (ps : Bag) : (jrev ps).length ≤ ps.length := by have := (jrev_aux ps []).2.2; simpa [jrev] using this
theorem joinR_len (ps : Bag) : (joinR ps).length ≤ ps.length := by unfold joinR; rw [List.length_reverse]; exact jrev_len ps
theorem jrev_mem (ps : Bag) (hp : ∀ p ∈ ps, 1 ≤ p.2) : ∀ q ∈ jrev ps, q.1 ∈ ps.map (·.1) ∧ 1 ≤ q.2 := by
  have : ∀ (ps acc : Bag) (l : List Str), (∀ p ∈ ps, 1 ≤ p.2 ∧ p.1 ∈ l) → (∀ q ∈ acc, q.1 ∈ l ∧ 1 ≤ q.2) → ∀ q ∈ ps.foldl jst acc, q.1 ∈ l ∧ 1 ≤ q.2 := by
    intro ps
    induction ps with
    | nil => intro acc l _ h; exact h
    | cons p r ih =>
      intro acc l h1 h2
      refine ih (jst acc p) l (fun q hq => h1 q (List.mem_cons_of_mem _ hq)) fun q hq => ?_
      have hp := h1 p List.mem_cons_self
      cases acc with
      | nil => rw [show jst [] p = [p] from rfl, List.mem_singleton] at hq; subst hq; exact ⟨hp.2, hp.1⟩
      | cons z t =>
        have hz := h2 z List.mem_cons_self
        have hq' : q ∈ (if z.1 = p.1 then (p.1, z.2 + p.2) :: t else p :: z :: t) := hq
        split at hq'
        · rcases List.mem_cons.mp hq' with rfl | hq'
          · exact ⟨hp.2, by show 1 ≤ z.2 + p.2; omega⟩
          · exact h2 q (List.mem_cons_of_mem _ hq')
        · rcases List.mem_cons.mp hq' with rfl | hq'
          · exact ⟨hp.2, hp.1⟩
          · exact h2 q hq'
  exact this ps [] (ps.map (·.1)) (fun p hpp => ⟨hp p hpp, List.mem_map.mpr ⟨p, hpp, rfl⟩⟩) nofun
theorem OrdOk.join {ps : Bag} (h : OrdOk ps) : OrdOk (joinR ps) := by
  have hm : ∀ q ∈ joinR ps, q.1 ∈ ps.map (·.1) ∧ 1 ≤ q.2 := fun q hq => jrev_mem ps h.pos q (List.mem_reverse.mp hq)
  refine ⟨fun q hq => ?_, fun q hq => (hm q hq).2, Nat.le_trans (joinR_len ps) h.len, Nat.le_trans (nodup_sub_len (namesOf_nodup _) fun x hx => ?_) h.few⟩
  · obtain ⟨p, hp, e⟩ := List.mem_map.mp (hm q hq).1
    rw [← e]; exact h.nam p hp
  · obtain ⟨q, hq, e⟩ := List.mem_map.mp (namesOf_mem.mp hx)
    rw [← e]
    exact namesOf_mem.mpr (hm q hq).1
/-! ### the last item of a list -/
def StepC (K : PySem.W.Frag) (c : Int) (v : V) (H : Hp) (Q : VK) : Prop := ∃ a xs, v = .ref a ∧ SqT K H a xs ∧ (stepL c xs).length ≤ sizeLine ∧ ∀ p, H p = none → Q (.ref p) (upd H p (.tup (stepL c xs)))
end TP

namespace TP
open PySem PySem.Spec PyProof.Rows L2
/-! ### arguments, keywords and defaults, picked by their places -/
def pick {α : Type} (js : List Nat) (l : List α) : List α := js.filterMap fun j => l[j]?
/-- n positional values, keywords ks, nd defaults: js says where each parameter comes from -/
def BindJ (x q : Str) (st : Stmt) (ps : List Str) (nd n : Nat) (ks : List Str) (js : List Nat) : Prop :=
  (nd = 0 ∧ ∀ (kV doc pm : Value) (an : Option Addr) (cdv ct : Value) (us ws : List Value), us.length = n → ws.length = ks.length →
    bindArgs (PySem.W.fnOf x q (defArgs st) (defBody st) (defScope st) .none kV doc pm an cdv ct) ⟨us, ks.zip ws⟩ = pure (ps.zip (pick js (us ++ ws)))) ∨
  (nd ≠ 0 ∧ ∀ (T : Addr) (kV doc pm : Value) (an : Option Addr) (cdv ct : Value) (us its ws : List Value), us.length = n → its.length = nd → ws.length = ks.length →
    ∃ k, bindArgs (PySem.W.fnOf x q (defArgs st) (defBody st) (defScope st) (.ref T) kV doc pm an cdv ct) ⟨us, ks.zip ws⟩ = seqItems? (.ref T) >>= k ∧ k (some its.toArray) = pure (ps.zip (pick js (us ++ ws ++ its))))
/-! ### methods -/
structure DfdM (K : PySem.W.Frag) (C m q : Str) (st : Stmt) (dvs : List V) : Prop where
  ex : ∃ fd, FunD K m q (defArgs st) (defBody st) (defScope st) dvs [] (He.ma K (He.ga K C) m) fd
  mt : Meth K (He.ga K C) m (He.ma K (He.ga K C) m)
structure HasM (P : Program) (w : World) (K : PySem.W.Frag) (mg : Str → Option Value) (base : Heap) (CX : CXT) (k : Nat) (C m q : Str) (st : Stmt) (dvs : List V) (ps : List Str) (sp : Sp) : Prop where
  ex : ∃ fd, FunD K m q (defArgs st) (defBody st) (defScope st) dvs [] (He.ma K (He.ga K C) m) fd ∧ FnG P w K mg base CX k (He.ma K (He.ga K C) m) fd ps sp
  mt : Meth K (He.ga K C) m (He.ma K (He.ga K C) m)
section
variable {P : Program} {w : World} {K : PySem.W.Frag} {mg : Str → Option Value} {base : Heap} {CX : CXT} {k j : Nat} {C m q : Str} {st : Stmt} {dvs : List V} {N ps : List Str} {sp sp' : Sp}
end
/-- a class of the program: its fields fs are no attributes of the class -/
structure ClsF (K : PySem.W.Frag) (mg : Str → Option Value) (C : Str) (fs : List Str) : Prop where
  glo : mg C = some (.ref (He.ga K C))
  cls : Cls K (He.ga K C)
  na : ∀ f ∈ fs, NoAttr K (He.ga K C) f
  mkr : Mk K (He.ga K C) (He.ma K (He.ga K C) "__init__")
  i1 : PySem.W.findIn K (.ref (He.ga K C)) "__class__" = some (some (.builtin "object.__class__"))
  i2 : PySem.W.specialIn K (.builtin "object.__class__") "__get__" = some (some (.builtin "getset_descriptor.__get__"))
  i3 : PySem.W.takesIn K (.builtin "object.__class__") = some true
  i4 : PySem.W.mroIn K (He.ga K C) (.type "object") = some true
  kt : PySem.W.kitOne K (.ref (He.ga K C)) (.ref (He.ga K C)) = some true
  kf : ∀ T ∈ ["NoneType", "bool", "int", "str", "list", "tuple", "dict"], PySem.W.kitOne K (.type T) (.ref (He.ga K C)) = some false
  kb : ∀ T ∈ ["int", "str", "list", "tuple", "dict", "bool"], PySem.W.kitOne K (.ref (He.ga K C)) (.type T) = some false
  ne : PySem.W.findIn K (.ref (He.ga K C)) "__ne__" = some (some (.builtin "object.__ne__"))
def clsB (K : PySem.W.Frag) (C : Str) (fs : List Str) : Bool :=
  (He.Fa.glo C).ok K && ((He.Fa.cls C).ok K && (fs.all (fun f => (He.Fa.noat C f).ok K) && ((He.Fa.mkr C).ok K && (He.eqO (PySem.W.findIn K (.ref (He.ga K C)) "__class__") (some (some (.builtin "object.__class__"))) &&
    (He.eqO (PySem.W.specialIn K (.builtin "object.__class__") "__get__") (some (some (.builtin "getset_descriptor.__get__"))) && (decide (PySem.W.takesIn K (.builtin "object.__class__") = some true) &&
    (decide (PySem.W.mroIn K (He.ga K C) (.type "object") = some true) && (decide (PySem.W.kitOne K (.ref (He.ga K C)) (.ref (He.ga K C)) = some true) &&
    (["NoneType", "bool", "int", "str", "list", "tuple", "dict"].all (fun T => decide (PySem.W.kitOne K (.type T) (.ref (He.ga K C)) = some false)) &&
    (["int", "str", "list", "tuple", "dict", "bool"].all (fun T => decide (PySem.W.kitOne K (.ref (He.ga K C)) (.type T) = some false)) && He.eqO (PySem.W.findIn K (.ref (He.ga K C)) "__ne__") (some (some (.builtin "object.__ne__")))))))))))))
/-- an empty tuple stands at the address -/
def etupB (K : PySem.W.Frag) (a : Addr) : Bool := match K.lookup a with
  | some ⟨.type c, _, .seq its _, _⟩ => decide (c = "tuple") && decide (its = #[])
  | _ => false
/-- the address of the i-th default of a method, if it is an object's -/
def dflA (C m : Str) (i : Nat) (K : PySem.W.Frag) : Addr := match K.lookup (He.ma K (He.ga K C) m) with
  | some ⟨_, _, .func fd, _⟩ => (match fd.defaults with
    | .ref T => (match K.lookup T with
      | some ⟨_, _, .seq its _, _⟩ => (match its[i]? with
        | some (.ref a) => a
        | _ => 0)
      | _ => 0)
    | _ => 0)
  | _ => 0
/-! ### the hook, with further facts of the written part -/
def hookE (n : Nat) (fa : List He.Fa) (fn : List He.DefD) (ex : List (PySem.W.Frag → Bool)) : PySem.W.Hook where
  α := He.AlD × Bool
  obs := fun s => (He.obsDG n fa fn s.heap.get?, (ex.all fun e => e (He.frG s.heap.get? (He.asD s.heap.get? n))))
  val := fun _ => (He.valD fn, true)
  says := fun _ h => ∃ K : PySem.W.Frag, K.In h ∧ He.SaysD fa fn K ∧ (ex.all fun e => e K) = true
  of := fun _ _ e => ⟨_, He.frG_in, congrArg (fun z : He.AlD × Bool => z.1) e, congrArg (fun z : He.AlD × Bool => z.2) e⟩
  keeps := fun _ _ _ ⟨K, hK, c⟩ k => ⟨K, PySem.W.Frag.In.keeps hK k, c⟩
def obsEG (n : Nat) (fa : List He.Fa) (fn : List He.DefD) (ex : List (PySem.W.Frag → Bool)) (g : Addr → Option Obj) : He.AlD × Bool := (He.obsDG n fa fn g, ex.all fun e => e (He.frG g (He.asD g n)))
theorem obsEG_eq {n : Nat} {fa : List He.Fa} {fn : List He.DefD} {ex : List (PySem.W.Frag → Bool)} {g : Addr → Option Obj} {s : Shared} (h : ∀ a, g a = s.heap.get? a) : obsEG n fa fn ex g = (hookE n fa fn ex).obs s := by
  have e : g = s.heap.get? := funext h
  rw [e] <;> rfl
/-! ### the rules -/
def MtC (C : Addr) (m : Str) (x : V) (H : Hp) (P : Prop) : Prop := ∃ a dx fs, x = .ref a ∧ H a = some (.ins C dx fs) ∧ fs.lookup m = none ∧ P
/-- o.m(..): n positional values, k keywords -/
def tMtN (C : Addr) (m : Str) (sp : Sp) (n k : Nat) (js : List Nat) (dvs : List V) (E : XK) (ta : TE) (t tk : TA) : TE := fun σ H Q => ta σ H fun x H1 => MtC C m x H1 (t σ H1 fun vs H2 => tk σ H2 fun zs H3 => vs.length = n ∧ zs.length = k ∧ sp (pick js ((x :: vs) ++ zs ++ dvs)) H3 Q E)
def MkG (C : Addr) (sp : Sp) (js : List Nat) (dvs vs zs : List V) (H : Hp) (Q : VK) (E : XK) : Prop := ∀ x dx, H x = none → H dx = none → dx ≠ x → sp (pick js ((.ref x :: vs) ++ zs ++ dvs)) (upd (upd H dx (.own x)) x (.ins C dx [])) (fun v H3 => v = .non ∧ Q (.ref x) H3) E
/-- C(..) -/
def tMkN (C : Addr) (sp : Sp) (n k : Nat) (js : List Nat) (dvs : List V) (E : XK) (t tk : TA) : TE := fun σ H Q => t σ H fun vs H1 => tk σ H1 fun zs H2 => vs.length = n ∧ zs.length = k ∧ MkG C sp js dvs vs zs H2 Q E
section
variable {X : Cx} {CX : CXT} {k n : Nat} {f : Addr} {fd : FuncData} {C m q : Str} {st : Stmt} {dvs : List V} {ps ks : List Str} {js : List Nat} {sp : Sp} {E : XK} {p pos apos : Pos} {e o : Expr} {es : List Expr} {kws : List Keyword} {ta : TE} {t tk : TA} {fs : List Str} {g : List Value → List Value → List Value} {gV : List V → List V → List V}
end
/-! ### fields, methods, isinstance in a reading -/
def LenC (n k : Nat) (vs zs : List V) (P : Prop) : Prop := vs.length = n ∧ zs.length = k ∧ P
def FldC (K : PySem.W.Frag) (f : Str) (x : V) (H : Hp) (Q : VK) : Prop := ∃ a C dx fs v, x = .ref a ∧ H a = some (.ins C dx fs) ∧ Cls K C ∧ NoAttr K C f ∧ fs.lookup f = some v ∧ Q v H
def SetC (K : PySem.W.Frag) (f : Str) (x y : V) (H : Hp) (k : Hp → Prop) : Prop := ∃ a C dx fs, x = .ref a ∧ H a = some (.ins C dx fs) ∧ Cls K C ∧ NoAttr K C f ∧ fs.length < 1000 ∧ k (upd H a (.ins C dx (putF f y fs)))
section
variable {K : PySem.W.Frag} {mg : Str → Option Value} {C f m : Str} {fs : List Str} {σ : L2.St} {H : Hp} {Q : VK} {ta tv : TE} {t tk : TA} {a dx : Addr} {fl : List (Str × V)} {v y : V} {De : Ends}
end
end TP



namespace TP
open PySem PySem.Spec PyProof.Rows L2
def top (i : Nat) : Stmt := PySem.Challenge.pw_tallyplans_k72_whole_sure_statements.main.body.getD i (.Pass ⟨0, 0, 0, 0⟩)
abbrev s_is_whole : Stmt := top 16
abbrev s_is_from : Stmt := top 17
abbrev s_is_between : Stmt := top 18
abbrev s_is_capacity : Stmt := top 19
abbrev s_is_name : Stmt := top 20
abbrev s_is_run : Stmt := top 21
abbrev s_first_invalid : Stmt := top 23
abbrev s_check_counts : Stmt := top 24
abbrev s_check_capacity : Stmt := top 25
abbrev s_check_name : Stmt := top 26
abbrev s_sum_of : Stmt := top 27
abbrev s_table_of : Stmt := top 28
abbrev s_Summary___init__ : Stmt := inClass (top 35) 0
abbrev s_Summary_tally : Stmt := inClass (top 35) 5
abbrev s_is_summary : Stmt := top 39
abbrev s_check_summary : Stmt := top 40
abbrev s_check_size : Stmt := top 42
abbrev s_reduction_count : Stmt := top 43
abbrev s_fits : Stmt := top 44
abbrev s_true_range : Stmt := top 45
abbrev s_surely_more : Stmt := top 46
abbrev s_most_ahead : Stmt := top 47
abbrev s_surely_among : Stmt := top 48
abbrev s__law_cell : Stmt := top 50
abbrev s__law_pool : Stmt := top 51
abbrev s__law_draw : Stmt := top 52
abbrev s__law_words : Stmt := top 53
abbrev s__law_flat : Stmt := top 54
abbrev s__law_held : Stmt := top 55
abbrev s__law_sum : Stmt := top 56
abbrev s__law_loaded : Stmt := top 57
abbrev s__law_dealt : Stmt := top 58
abbrev s__law_first_dealt : Stmt := top 59
abbrev s__law_count_ahead : Stmt := top 60
abbrev s__law_raised : Stmt := top 61
abbrev s__law_pairs_right : Stmt := top 62
abbrev s__law_right : Stmt := top 63
abbrev s_law : Stmt := top 64
def d_is_whole : He.DefD := ⟨("is_whole", none), "is_whole", "is_whole", defArgs s_is_whole, defBody s_is_whole, defScope s_is_whole, [], []⟩
def d_is_from : He.DefD := ⟨("is_from", none), "is_from", "is_from", defArgs s_is_from, defBody s_is_from, defScope s_is_from, [], []⟩
def d_is_between : He.DefD := ⟨("is_between", none), "is_between", "is_between", defArgs s_is_between, defBody s_is_between, defScope s_is_between, [], []⟩
def d_is_capacity : He.DefD := ⟨("is_capacity", none), "is_capacity", "is_capacity", defArgs s_is_capacity, defBody s_is_capacity, defScope s_is_capacity, [], []⟩
def d_is_name : He.DefD := ⟨("is_name", none), "is_name", "is_name", defArgs s_is_name, defBody s_is_name, defScope s_is_name, [], []⟩
def d_is_run : He.DefD := ⟨("is_run", none), "is_run", "is_run", defArgs s_is_run, defBody s_is_run, defScope s_is_run, [], []⟩
def d_first_invalid : He.DefD := ⟨("first_invalid", none), "first_invalid", "first_invalid", defArgs s_first_invalid, defBody s_first_invalid, defScope s_first_invalid, [], []⟩
def d_check_counts : He.DefD := ⟨("check_counts", none), "check_counts", "check_counts", defArgs s_check_counts, defBody s_check_counts, defScope s_check_counts, [], []⟩
def d_check_capacity : He.DefD := ⟨("check_capacity", none), "check_capacity", "check_capacity", defArgs s_check_capacity, defBody s_check_capacity, defScope s_check_capacity, [], []⟩
def d_check_name : He.DefD := ⟨("check_name", none), "check_name", "check_name", defArgs s_check_name, defBody s_check_name, defScope s_check_name, [], []⟩
def d_sum_of : He.DefD := ⟨("sum_of", none), "sum_of", "sum_of", defArgs s_sum_of, defBody s_sum_of, defScope s_sum_of, [], []⟩
def d_table_of : He.DefD := ⟨("table_of", none), "table_of", "table_of", defArgs s_table_of, defBody s_table_of, defScope s_table_of, [], []⟩
def d_Summary___init__ : He.DefD := ⟨("Summary", some "__init__"), "__init__", "Summary.__init__", defArgs s_Summary___init__, defBody s_Summary___init__, defScope s_Summary___init__, [.adr (dflA "Summary" "__init__" 0)], []⟩
def d_Summary_tally : He.DefD := ⟨("Summary", some "tally"), "tally", "Summary.tally", defArgs s_Summary_tally, defBody s_Summary_tally, defScope s_Summary_tally, [], []⟩
def d_is_summary : He.DefD := ⟨("is_summary", none), "is_summary", "is_summary", defArgs s_is_summary, defBody s_is_summary, defScope s_is_summary, [], []⟩
def d_check_summary : He.DefD := ⟨("check_summary", none), "check_summary", "check_summary", defArgs s_check_summary, defBody s_check_summary, defScope s_check_summary, [], []⟩
def d_check_size : He.DefD := ⟨("check_size", none), "check_size", "check_size", defArgs s_check_size, defBody s_check_size, defScope s_check_size, [], []⟩
def d_reduction_count : He.DefD := ⟨("reduction_count", none), "reduction_count", "reduction_count", defArgs s_reduction_count, defBody s_reduction_count, defScope s_reduction_count, [], []⟩
def d_fits : He.DefD := ⟨("fits", none), "fits", "fits", defArgs s_fits, defBody s_fits, defScope s_fits, [], []⟩
def d_true_range : He.DefD := ⟨("true_range", none), "true_range", "true_range", defArgs s_true_range, defBody s_true_range, defScope s_true_range, [], []⟩
def d_surely_more : He.DefD := ⟨("surely_more", none), "surely_more", "surely_more", defArgs s_surely_more, defBody s_surely_more, defScope s_surely_more, [], []⟩
def d_most_ahead : He.DefD := ⟨("most_ahead", none), "most_ahead", "most_ahead", defArgs s_most_ahead, defBody s_most_ahead, defScope s_most_ahead, [], []⟩
def d_surely_among : He.DefD := ⟨("surely_among", none), "surely_among", "surely_among", defArgs s_surely_among, defBody s_surely_among, defScope s_surely_among, [], []⟩
def d__law_cell : He.DefD := ⟨("_law_cell", none), "_law_cell", "_law_cell", defArgs s__law_cell, defBody s__law_cell, defScope s__law_cell, [], []⟩
def d__law_pool : He.DefD := ⟨("_law_pool", none), "_law_pool", "_law_pool", defArgs s__law_pool, defBody s__law_pool, defScope s__law_pool, [], []⟩
def d__law_draw : He.DefD := ⟨("_law_draw", none), "_law_draw", "_law_draw", defArgs s__law_draw, defBody s__law_draw, defScope s__law_draw, [], []⟩
def d__law_words : He.DefD := ⟨("_law_words", none), "_law_words", "_law_words", defArgs s__law_words, defBody s__law_words, defScope s__law_words, [], []⟩
def d__law_flat : He.DefD := ⟨("_law_flat", none), "_law_flat", "_law_flat", defArgs s__law_flat, defBody s__law_flat, defScope s__law_flat, [], []⟩
def d__law_held : He.DefD := ⟨("_law_held", none), "_law_held", "_law_held", defArgs s__law_held, defBody s__law_held, defScope s__law_held, [], []⟩
def d__law_sum : He.DefD := ⟨("_law_sum", none), "_law_sum", "_law_sum", defArgs s__law_sum, defBody s__law_sum, defScope s__law_sum, [], []⟩
def d__law_loaded : He.DefD := ⟨("_law_loaded", none), "_law_loaded", "_law_loaded", defArgs s__law_loaded, defBody s__law_loaded, defScope s__law_loaded, [], []⟩
def d__law_dealt : He.DefD := ⟨("_law_dealt", none), "_law_dealt", "_law_dealt", defArgs s__law_dealt, defBody s__law_dealt, defScope s__law_dealt, [], []⟩
def d__law_first_dealt : He.DefD := ⟨("_law_first_dealt", none), "_law_first_dealt", "_law_first_dealt", defArgs s__law_first_dealt, defBody s__law_first_dealt, defScope s__law_first_dealt, [], []⟩
def d__law_count_ahead : He.DefD := ⟨("_law_count_ahead", none), "_law_count_ahead", "_law_count_ahead", defArgs s__law_count_ahead, defBody s__law_count_ahead, defScope s__law_count_ahead, [], []⟩
def d__law_raised : He.DefD := ⟨("_law_raised", none), "_law_raised", "_law_raised", defArgs s__law_raised, defBody s__law_raised, defScope s__law_raised, [], []⟩
def d__law_pairs_right : He.DefD := ⟨("_law_pairs_right", none), "_law_pairs_right", "_law_pairs_right", defArgs s__law_pairs_right, defBody s__law_pairs_right, defScope s__law_pairs_right, [], []⟩
def d__law_right : He.DefD := ⟨("_law_right", none), "_law_right", "_law_right", defArgs s__law_right, defBody s__law_right, defScope s__law_right, [], []⟩
def d_law : He.DefD := ⟨("law", none), "law", "law", defArgs s_law, defBody s_law, defScope s_law, [], []⟩
def fn : List He.DefD := [d_is_whole, d_is_from, d_is_between, d_is_capacity, d_is_name, d_is_run, d_first_invalid, d_check_counts, d_check_capacity, d_check_name, d_sum_of, d_table_of, d_Summary___init__, d_Summary_tally, d_is_summary, d_check_summary, d_check_size, d_reduction_count, d_fits, d_true_range, d_surely_more, d_most_ahead, d_surely_among, d__law_cell, d__law_pool, d__law_draw, d__law_words, d__law_flat, d__law_held, d__law_sum, d__law_loaded, d__law_dealt, d__law_first_dealt, d__law_count_ahead, d__law_raised, d__law_pairs_right, d__law_right, d_law]
def fa : List He.Fa := [.glo "is_whole", .glo "is_from", .glo "is_between", .glo "is_capacity", .glo "is_name", .glo "is_run", .glo "first_invalid", .glo "check_counts", .glo "check_capacity", .glo "check_name", .glo "sum_of", .glo "table_of", .meth "Summary" "__init__", .meth "Summary" "tally", .glo "is_summary", .glo "check_summary", .glo "check_size", .glo "reduction_count", .glo "fits", .glo "true_range", .glo "surely_more", .glo "most_ahead", .glo "surely_among", .glo "_law_cell", .glo "_law_pool", .glo "_law_draw", .glo "_law_words", .glo "_law_flat", .glo "_law_held", .glo "_law_sum", .glo "_law_loaded", .glo "_law_dealt", .glo "_law_first_dealt", .glo "_law_count_ahead", .glo "_law_raised", .glo "_law_pairs_right", .glo "_law_right", .glo "law", .free "len", .free "isinstance", .free "range", .free "enumerate", .free "zip", .free "reversed", .free "int", .free "str", .free "bool", .free "tuple", .free "list", .free "dict", .free "bytes", .free "set", .free "sum", .free "all", .free "any", .free "abs", .free "min", .free "max", .free "sorted", .free "repr", .free "divmod", .free "type", .free "map", .free "iter", .free "next", .int "MAX_CAPACITY" 8, .str "LETTERS" "abcdefghijklmnopqrstuvwxyz", .int "MAX_NAMES" 12]
abbrev R : PySem.W.OpenRow := PySem.W.OpenLaw.row PySem.Challenge.rw_tallyplans_k72_whole_sure_statements
def ex : List (PySem.W.Frag → Bool) := [fun K => clsB K "Summary" ["capacity", "counts", "__bool__"], fun K => etupB K (dflA "Summary" "__init__" 0 K)]
abbrev hk : PySem.W.Hook := hookE 6 fa fn ex
def ob (s : PySem.W.SharedT) : He.AlD × Bool := obsEG 6 fa fn ex (HandSHeadRun.getT s)
theorem ob_eq (s : PySem.W.SharedT) : ob s = hk.obs s.abs := obsEG_eq (HandSHeadRun.getT_eq s)
def loose0 : List Str := ["_wall", "TallyError", "InvalidCapacity", "InvalidName", "InvalidCounts", "InvalidSummary", "InvalidOrder", "InvalidSize", "InvalidNumber", "NotASummary", "MAX_CAPACITY", "MAX_NAMES", "MAX_RUNS", "LETTERS", "is_whole", "is_from", "is_between", "is_capacity", "is_name", "is_run", "first_invalid", "check_counts", "check_capacity", "check_name", "sum_of", "table_of", "first_no_order", "check_order", "counts_text", "Summary"]
def loose1 : List Str := ["lowered", "arrived", "played", "is_summary", "check_summary", "check_size", "reduction_count", "fits", "true_range", "surely_more", "most_ahead", "surely_among", "_law_cell", "_law_pool", "_law_draw", "_law_words", "_law_flat", "_law_held", "_law_sum", "_law_loaded", "_law_dealt", "_law_first_dealt", "_law_count_ahead", "_law_raised", "_law_pairs_right", "_law_right"]
def loose : List Str := loose0 ++ loose1
theorem run (w : World) : HandSHeadRun.RunEq R (PySem.W.view R.prog [64]) hk ob 6000 loose w := by
  intro os
  kernel_rfl
end TP
namespace TP
open PySem PySem.Spec PyProof.Rows L2
section
variable {P : Program} {w : World} {K : PySem.W.Frag} {mg : Str → Option Value} {base : Heap} {CX : CXT} {j k : Nat} {f : Addr} {fd : FuncData} {ps : List Str} {sp sp' : Sp}
theorem FnG.mono (F : FnG P w K mg base CX j f fd ps sp) (h : j ≤ k) : FnG P w K mg base CX k f fd ps sp :=
  ⟨F.len, fun A outer s H args us vs Q E hr hg => F.run A outer s H args us vs Q E (hr.mono h) hg⟩
theorem FnG.imp (F : FnG P w K mg base CX k f fd ps sp) (h : ∀ vs H Q E, sp' vs H Q E → sp vs H Q E) : FnG P w K mg base CX k f fd ps sp' :=
  ⟨fun vs H Q E q => F.len vs H Q E (h _ _ _ _ q), fun A outer s H args us vs Q E hr hg e b r q => F.run A outer s H args us vs Q E hr hg e b r (h _ _ _ _ q)⟩
end
/-- the rule for a def, its body told with what is around it -/
theorem fnG_of {CX : CXT} {P : Program} {w : World} {K : PySem.W.Frag} {mg : Str → Option Value} {base : Heap} {k : Nat} {f : Addr} {x qual : Str} {params : Arguments} {body : List Stmt} {scope : Scope} {dvs : List V} {kws : List (Str × V)} {fd : FuncData} {N ps : List Str} {sp : Sp}
    (F : FunD K x qual params body scope dvs kws f fd) (S : FnScope N ps scope) (len : ∀ vs H Q E, sp vs H Q E → vs.length = ps.length)
    (hbody : ∀ (cdv : Value) (A : Around) (outer : List Env) (s : Shared) (H : Hp) (vs : List V) (Q : VK) (E : XK), Room k (A.deeper (envOfC qual scope s.heap.objs.size f cdv)) → (A.deeper (envOfC qual scope s.heap.objs.size f cdv)).guards = some [] → sp vs H Q E →
      ∃ t, PSs (cxOf CX P w K mg base N qual scope f cdv A outer s H E) body t ∧ t { nx := fun _ H' => Q .non H', rt := Q } (start N vs) H) :
    FnG P w K mg base CX (k + 1) f fd ps sp := by
  obtain ⟨oc, od, dV, kV, doc, pm, an, cdv, ct, osl, rfl, lk, hcd, _, _⟩ := F.ex
  refine ⟨len, fun A outer s H args us vs Q E hr hg e0 hb r hsp => ?_⟩
  have hl := len _ _ _ _ hsp
  have kx : K.In s.heap := e0.mod.kin.keeps fun b o e => (e0.bs b o e).1
  have nl : s.heap.NoLimit := e0.mod.nolimit.keeps fun b o e => (e0.bs b o e).1
  refine codeAny_call_function hr.depth (kx _ _ lk) rfl S.co S.gen rfl (PySem.W.codeRec_of kx hcd) (hb _ _ _ _ ?_)
  refine wpAny_newFunctionEnv_cells S.kind (fun ⟨n, v⟩ hy => by
    rcases S.par n (List.of_mem_zip hy).1 with q | q
    · exact .inl q
    · exact .inr ⟨q, PySem.W.cellsFrom_some _ _ _ (.inl q)⟩) fun env he s1 ic => ?_
  subst he
  refine ⟨nl.keeps ic.toInCall.keep, codeAny_func ?_⟩
  obtain ⟨t, ht, hq⟩ := hbody cdv A outer s H vs Q E (hr.deeper _) hg hsp
  have I0 := inv_start (CX := CX) (E := E) S hr.hd e0 hl r ic
  refine wpAny_mono (ht.run [] s1 (start N vs) H _ I0 hq) (fun fl s' hs => ?_) fun e s' hs => hs
  cases fl with
  | ret u =>
    obtain ⟨v, σ', H', J, rv, q⟩ := hs
    exact ⟨v, H', J.os, J.bare, J.base, J.hok, rv, q⟩
  | next =>
    obtain ⟨σ', H', J, q⟩ := hs
    exact ⟨.non, H', J.os, J.bare, J.base, J.hok, rfl, q⟩
  | brk =>
    obtain ⟨_, _, _, q⟩ := hs
    exact q.elim
  | cont =>
    obtain ⟨_, _, _, q⟩ := hs
    exact q.elim
section
variable {P : Program} {w : World} {K : PySem.W.Frag} {mg : Str → Option Value} {base : Heap} {CX : CXT} {k j : Nat} {x : Str} {st : Stmt} {N ps : List Str} {sp sp' : Sp}
theorem Dfd.has (D : Dfd K mg x st) (S : FnScope N ps (defScope st)) (len : ∀ vs H Q E, sp vs H Q E → vs.length = ps.length)
    (hbody : ∀ (cdv : Value) (A : Around) (outer : List Env) (s : Shared) (H : Hp) (vs : List V) (Q : VK) (E : XK), Room k (A.deeper (envOfC x (defScope st) s.heap.objs.size (He.ga K x) cdv)) → (A.deeper (envOfC x (defScope st) s.heap.objs.size (He.ga K x) cdv)).guards = some [] → sp vs H Q E →
      ∃ t, PSs (cxOf CX P w K mg base N x (defScope st) (He.ga K x) cdv A outer s H E) (defBody st) t ∧ t { nx := fun _ H' => Q .non H', rt := Q } (start N vs) H) :
    Has P w K mg base CX (k + 1) x st ps sp := by
  obtain ⟨fd, F⟩ := D.ex
  exact ⟨⟨fd, F, fnG_of F S len hbody⟩, D.glo⟩
theorem Has.imp (h : Has P w K mg base CX k x st ps sp) (i : ∀ vs H Q E, sp' vs H Q E → sp vs H Q E) : Has P w K mg base CX k x st ps sp' := by
  obtain ⟨fd, F, G⟩ := h.ex
  exact ⟨⟨fd, F, G.imp i⟩, h.glo⟩
end
section
variable {X : Cx} {CX : CXT} {k : Nat} {f : Addr} {fd : FuncData} {ps ks : List Str} {sp : Sp} {E : XK} {x : Str} {st : Stmt} {p pos : Pos} {e : Expr} {es : List Expr} {kws : List Keyword} {t tk : TA}
theorem runG {pins : List (Addr × Obj)} {σ : L2.St} {H : Hp} {s : Shared} {Q : VK} {us : List Value} {args : Args} {vs : List V} (F : FnG X.prog X.w X.K X.mg X.base CX k f fd ps sp) (hr : Room k X.A) (hg : X.A.guards = some []) (hx : Passes CX X E)
    (I : Inv X pins σ H s) (r : Vals vs us) (hb : BindsTo s fd args (ps.zip us)) (h : sp vs H Q E) : wpAny (model X.prog X.w) X.A (call (.ref f) args.pos args.kw) (EP X pins σ Q) X.xe s := by
  refine wpAny_call (codeAny_mono (F.run X.A X.stack s H args us vs Q E hr hg I.env0 hb r h) fun z s' hq => ?_)
  cases z with
  | error e => exact hx pins σ H s e s' I hq
  | ok fl =>
    cases fl with
    | ret u => exact I.after hq
    | next => exact hq.elim
    | brk => exact hq.elim
    | cont => exact hq.elim
theorem FunD.noDef {K : PySem.W.Frag} {q : Str} {params : Arguments} {body : List Stmt} {scope : Scope} {kvs : List (Str × V)} (F : FunD K x q params body scope [] kvs f fd) :
    ∃ (kV doc pm : Value) (an : Option Addr) (cdv ct : Value), fd = PySem.W.fnOf x q params body scope .none kV doc pm an cdv ct := by
  obtain ⟨oc, od, dV, kV, doc, pm, an, cdv, ct, osl, rfl, lk, hcd, hd, _⟩ := F.ex
  rcases hd with ⟨_, rfl⟩ | ⟨q, _⟩
  · exact ⟨kV, doc, pm, an, cdv, ct, rfl⟩
  · exact absurd rfl q
theorem pe_fn (F : Has X.prog X.w X.K X.mg X.base CX k x st ps sp) (hb : PosB x st ps) (hr : Room k X.A) (hg : X.A.guards = some []) (hgl : Gl X x) (hx : Passes CX X E)
    (ha : PA X (e :: es) t) (hdb : (x == ("__debug__" : Str)) = false := by decide) (he : starEach (e :: es) X.env = (false, eval e X.env) :: starEach es X.env := by rfl)
    (hpl : (backTo pos (starEach es X.env)).any (·.1) = false := by rfl) : PE X (.Call (.Name x p) (e :: es) [] pos) (tCall sp [] E t) := by
  obtain ⟨fd, FD, G⟩ := F.ex
  refine ⟨fun pins s σ H Q I h => ?_⟩
  refine wpAny_Call_Name_kw (ld_glob I hgl F.glo ?_ hdb)
  refine PySem.W.callWith_K (h₀ := X.base) I.ok.mod.kin FD.kp (thn (ha.run pos pins s σ H _ I h) fun us s1 ⟨vs, H1, I1, r, q⟩ => ⟨I1.kIn, ?_⟩) he hpl
  have q2 : sp vs H1 Q E := by rw [← List.append_nil vs]; exact q
  obtain ⟨kV, doc, pm, an, cdv, ct, rfl⟩ := FunD.noDef FD
  exact runG (args := ⟨us, []⟩) G hr hg hx I1 r (.of_eq (hb kV doc pm an cdv ct us (by rw [← r.length]; exact G.len _ _ _ _ q2))) q2
end
section
variable {P : Program} {w : World} {K : PySem.W.Frag} {mg mb : Str → Option Value} {k : Nat} {fa a : Addr} {fd : FuncData} {x : Str} {sp : Sp} {s₁ : Shared} {vs : List Value} {ns : List Int}
/-- the law's call from an abstract heap H that holds the script at most -/
theorem law_core (KX : K.In s₁.heap) (hns : s₁.heap.Ns mainGlobals mg) (hb : s₁.heap.Ns builtinsNs mb) (hbb : ∀ x : Str, x ≠ "__name__" → mb x = bootBuiltins x) (hlim : s₁.heap.NoLimit) (hg : s₁.gens = #[])
    (ha : s₁.heap.get? a = some { cls := .type "list", data := .seq vs.toArray }) (hr : Room k callerA)
    (F : ∀ base : Heap, K.In base → base.Ns mainGlobals mg → FnG P w K mg base CX0 k fa fd [x] sp) (hbind : ∀ (s : Shared) (u : Value), BindsTo s fd ⟨[u], []⟩ [(x, u)])
    {H : Hp} (hO : Only H) (hsp : sp [.ref a] H (fun v _ => v = .bl true) fun _ _ _ => False) (hok : HOk P w H s₁.heap) (hA : ∀ b, H b ≠ none → b = a) (hK : H a ≠ none → K.lookup a = none) :
    codeAny (model P w) callerA (.call (.ref fa) ⟨[.ref a], []⟩) (fun r s' => r = .ok (.ret (.bool true)) ∧ OldK s₁.heap s'.heap ∧ s'.os = s₁.os ∧ AllBare s'.gens) s₁ := by
  have dict_out : ∀ {b : Addr} {o : Obj} {es : Array DictEntry} {ep : Nat}, s₁.heap.get? b = some o → o.data = .dict es ep → H b = none := fun {b o es ep} e d => by
    refine Classical.byContradiction fun z => ?_
    have eb := hA b z
    rw [eb, ha] at e
    cases e
    cases d
  have ns_in : ∀ {b : Addr} {m : Str → Option Value}, s₁.heap.Ns b m → (hidT s₁.heap H).Ns b m := fun {b m} ⟨o, es, ep, e, d, r⟩ => ⟨o, es, ep, hidT_get e (dict_out e d), d, r⟩
  have k_in : K.In (hidT s₁.heap H) := fun b o e => hidT_get (KX b o e) (Classical.byContradiction fun z => by
    have eb := hA b z
    rw [eb] at e z
    rw [hK z] at e
    cases e)
  have md : Mod K mg (hidT s₁.heap H) := ⟨k_in, ns_in hns, ⟨mb, ns_in hb, hbb⟩, let ⟨mc, h1, h2⟩ := hlim; ⟨mc, ns_in h1, h2⟩⟩
  have no : ∀ b : Addr, b ∈ frs ([] : List Env) → False := fun b q => by
    have q2 : b ∈ ([] : List Addr) := q
    cases q2
  have e0 : Env0 P w K mg (hidT s₁.heap H) callerA [] s₁ H := ⟨rfl, md, fun b o e => of_hidT e, Nat.le_of_eq (hidT_size _ _), trivial, fun b q => (no b q).elim, hok, .of_eq hg⟩
  refine codeAny_mono ((F _ k_in (ns_in hns)).run callerA [] s₁ H ⟨[.ref a], []⟩ [.ref a] [.ref a] _ _ hr rfl e0 (hbind s₁ (.ref a)) (.cons rfl .nil) hsp) fun r s' h => ?_
  cases r with
  | error e => exact h.elim
  | ok fl =>
    cases fl with
    | next => exact h.elim
    | brk => exact h.elim
    | cont => exact h.elim
    | ret u =>
      obtain ⟨v, H', os, bare, un, hok', r', q⟩ := h
      have q' : v = .bl true := q
      subst q'
      have eu : u = Value.bool true := r'
      subst eu
      refine ⟨rfl, OldK.of_keep fun b o e => ?_, os, bare⟩
      rcases hO b with z | ⟨ob, xs, z⟩
      · exact un.keep b o e z (fun q => no b q) (by simp)
      · have e1 : s₁.heap.get? b = some ob := (hok b _ z).1
        have e2 : s'.heap.get? b = some ob := (hok' b _ (un.frzs b ob _ z)).1
        rw [e] at e1
        rw [e2, ← e1]
theorem law_callG (KX : K.In s₁.heap) (hns : s₁.heap.Ns mainGlobals mg) (hb : s₁.heap.Ns builtinsNs mb) (hbb : ∀ x : Str, x ≠ "__name__" → mb x = bootBuiltins x) (hlim : s₁.heap.NoLimit) (hg : s₁.gens = #[])
    (ha : s₁.heap.get? a = some { cls := .type "list", data := .seq vs.toArray }) (hi : IntsAre vs ns) (hl : ns.length ≤ sizeLine) (hr : Room k callerA)
    (F : ∀ base : Heap, K.In base → base.Ns mainGlobals mg → FnG P w K mg base CX0 k fa fd [x] sp) (hbind : ∀ (s : Shared) (u : Value), BindsTo s fd ⟨[u], []⟩ [(x, u)])
    (hsp : ∀ H : Hp, SqL K H a (ns.map V.int) → sp [.ref a] H (fun v _ => v = .bl true) fun _ _ _ => False) :
    codeAny (model P w) callerA (.call (.ref fa) ⟨[.ref a], []⟩) (fun r s' => r = .ok (.ret (.bool true)) ∧ OldK s₁.heap s'.heap ∧ s'.os = s₁.os ∧ AllBare s'.gens) s₁ := by
  have rv := vals_ints hi
  cases hk : K.lookup a with
  | some o =>
    have e := KX a o hk
    rw [ha] at e
    cases e
    exact law_core (H := fun _ => none) KX hns hb hbb hlim hg ha hr F hbind (fun _ => .inl rfl) (hsp _ (.inr ⟨_, vs.toArray, _, hk, rfl, rfl, rfl, by rw [List.size_toArray, hi.length]; exact hl, by simpa using rv⟩))
      (fun b u z => by cases z) (fun b z => absurd rfl z) fun z => absurd rfl z
  | none =>
    let H : Hp := fun b => if b = a then some (.frz { cls := .type "list", data := .seq vs.toArray } (.lst (ns.map V.int))) else none
    have at_a : H a = some (.frz { cls := .type "list", data := .seq vs.toArray } (.lst (ns.map V.int))) := if_pos rfl
    have off : ∀ b, b ≠ a → H b = none := fun b z => if_neg z
    refine law_core (H := H) KX hns hb hbb hlim hg ha hr F hbind (fun b => ?_) (hsp _ (.inl (.inr ⟨_, at_a⟩))) (fun b u z => ?_) (fun b z => ?_) fun _ => hk
    · by_cases q : b = a
      · subst q; exact .inr ⟨_, _, at_a⟩
      · exact .inl (off b q)
    · by_cases q : b = a
      · subst q
        rw [at_a] at z
        cases z
        exact ⟨ha, by rw [List.length_map]; exact hl, vs, _, rv, ha⟩
      · rw [off b q] at z; cases z
    · exact Classical.byContradiction fun q => z (off b q)
end
theorem walkG {l : PySem.W.OpenLaw} {n k : Nat} {q : Program} {loose : List Str} {XP : (Str → Option Value) → Heap → Prop} {YP : World → Heap → Prop} {d : DefRec} {x : Str}
    (hn : l.most = some n) (hn2 : n ≤ sizeLine) (hdf : d.params.defaults = []) (hr : Room k callerA)
    (F : ∀ (w : World) (mg : Str → Option Value) (fa : Addr) (h : Heap), YP w h → h.Ns mainGlobals mg → mg d.name = some (.ref fa) →
      ∃ (K : PySem.W.Frag) (fd : FuncData) (sp : Sp), K.In h ∧ (∀ (s : Shared) (u : Value), BindsTo s fd ⟨[u], []⟩ [(x, u)]) ∧
        (∀ (H : Hp) (a : Addr) (ns : List Int), ns.length ≤ n → SqL K H a (ns.map V.int) → sp [.ref a] H (fun v _ => v = .bl true) fun _ _ _ => False) ∧
        ∀ base : Heap, K.In base → base.Ns mainGlobals mg → FnG l.prog w K mg base CX0 k fa fd [x] sp) :
    PySem.W.WalkO q loose XP YP l.row.toRowW d [] (fun f vs => PySem.call f vs) := by
  refine Att.attach_call hn hdf fun w s₀ s₁ mg mb fa o pm cd doc a vs ns G Y ho hd hcd hmg hobj hints hlen hg => ?_
  obtain ⟨K, fd, sp, KX, hb, hsp, hF⟩ := F w mg fa _ Y G.T.g hmg
  exact law_callG KX G.T.g G.T.b G.T.builtins G.T.nolimit hg hobj hints (Nat.le_trans hlen hn2) hr hF hb fun H hS => hsp H a ns hlen hS
end TP

namespace TP
open PySem PySem.Spec PyProof.Rows L2
section
variable {H H' H1 : Hp} {p q : Addr} {o u : HO}
theorem hp_new (h : H p = some o) (hq : H q = none) : upd H q u p = some o := (upd_ne (ne_of_none h hq)).trans h
theorem hp_same (s : Same H H') (h : H p = some o) : H' p = some o := s p o h
theorem same_new (hq : H q = none) : Same H (upd H q u) := fun b o h => hp_new h hq
theorem same_step (s : Same H H') (hq : H' q = none) : Same H (upd H' q u) := s.trans (same_new hq)
/-- an object that H does not know may change -/
theorem same_mut (s : Same H H') (hq : H q = none) : Same H (upd H' q u) := fun b o h => (upd_ne (ne_of_none h hq)).trans (s b o h)
theorem szl {n : Nat} (h : n.ble 100000 = true) : n ≤ sizeLine := Nat.le_trans (Nat.le_of_ble_eq_true h) (by rw [sizeLine_eq]; decide)
theorem sz_le {n : Nat} (h : n ≤ 100000) : n ≤ sizeLine := Nat.le_trans h (by rw [sizeLine_eq]; decide)
theorem sz_lt {n : Nat} (h : n < 100000) : n < sizeLine := Nat.lt_of_lt_of_le h (by rw [sizeLine_eq]; decide)
end
theorem SameT.refl (H : Hp) : SameT H H := fun _ _ h _ _ => h
theorem SameT.new {H : Hp} {l : Addr} {u : HO} (h : H l = none) : SameT H (upd H l u) := same_t (same_new h)
section
variable {K : PySem.W.Frag} {H : Hp}
theorem dps_len : ∀ {vs : List V} {ds : List PyData}, DpAll K H vs ds → vs.length = ds.length
  | _, _, .nil => rfl
  | _, _, .cons _ r => by rw [List.length_cons, List.length_cons, dps_len r]
theorem dps_get : ∀ {vs : List V} {ds : List PyData} {i : Nat} {v : V}, DpAll K H vs ds → vs[i]? = some v → ∃ d, ds[i]? = some d ∧ Dp K H v d
  | _, _, i, _, .nil, e => by simp at e
  | _, _, 0, _, .cons h _, e => by simp at e; subst e; exact ⟨_, rfl, h⟩
  | _, _, i + 1, v, .cons _ r, e => by
    obtain ⟨d, h1, h2⟩ := dps_get (i := i) r (by simpa using e)
    exact ⟨d, by simpa using h1, h2⟩
theorem dps_get' : ∀ {vs : List V} {ds : List PyData} {i : Nat} {d : PyData}, DpAll K H vs ds → ds[i]? = some d → ∃ v, vs[i]? = some v ∧ Dp K H v d
  | _, _, i, _, .nil, e => by simp at e
  | _, _, 0, _, .cons h _, e => by simp at e; subst e; exact ⟨_, rfl, h⟩
  | _, _, i + 1, v, .cons _ r, e => by
    obtain ⟨d, h1, h2⟩ := dps_get' (i := i) r (by simpa using e)
    exact ⟨d, by simpa using h1, h2⟩
theorem dps_snoc : ∀ {vs : List V} {ds : List PyData} {v : V} {d : PyData}, DpAll K H vs ds → Dp K H v d → DpAll K H (vs ++ [v]) (ds ++ [d])
  | _, _, _, _, .nil, h => .cons h .nil
  | _, _, _, _, .cons a r, h => .cons a (dps_snoc r h)
theorem dp_int_inv {v : V} {i : Int} (h : Dp K H v (.int i)) : v = .int i := by cases h; rfl
theorem dp_str_inv {v : V} {x : Str} (h : Dp K H v (.str x)) : v = .str x := by cases h; rfl
theorem dp_tup_inv {v : V} {ds : List PyData} (h : Dp K H v (.tuple ds)) : ∃ a xs, v = .ref a ∧ SqT K H a xs ∧ DpAll K H xs ds := by cases h with | tup h r => exact ⟨_, _, rfl, h, r⟩
end
section
variable {σ : L2.St} {H : Hp} {Q : VK} {QB : Bool → Hp → Prop} {QA : List V → Hp → Prop} {QO : Option Int → Hp → Prop} {ta tb tc te : TE} {tt tu : TT} {tr : TA} {D : Ends} {s t u : TS} {g : TG} {gs : TGs} {r r' : R2} {v x y : V} {E : XK} {sp : Sp}
theorem w_var {i : Nat} (e : σ[i]? = some (some v)) (h : Q v H) : tVar i σ H Q := ⟨v, e, h⟩
theorem w_c (h : Q v H) : tC v σ H Q := h
theorem w_op (h : ta σ H fun x H1 => tb σ H1 fun y H2 => r x y H2 Q) : tOp r ta tb σ H Q := h
theorem w_un {r : V → Hp → VK → Prop} (h : ta σ H fun x H1 => r x H1 Q) : tUn r ta σ H Q := h
theorem w_U {g : Int → V} {i : Int} (h : Q (g i) H) : rU g (.int i) H Q := ⟨i, rfl, h⟩
theorem w_I0 {g : Int → Int → V} {i j : Int} (h : Q (g i j) H) : rI0 g (.int i) (.int j) H Q := ⟨i, j, rfl, rfl, h⟩
theorem w_I {C : Int → Int → Prop} {g : Int → Int → V} {i j : Int} (c : C i j) (h : Q (g i j) H) : rI C g (.int i) (.int j) H Q := ⟨i, j, rfl, rfl, c, h⟩
theorem w_eqI {i j : Int} (h : Q (.bl (decide (i = j))) H) : rEq (.int i) (.int j) H Q := by
  refine ⟨rfl, ?_⟩
  have e : decide (V.int i = V.int j) = decide (i = j) := by
    by_cases z : i = j
    · subst z; simp
    · rw [decide_eq_false z, decide_eq_false fun q => z (V.int.inj q)]
  rw [e]; exact h
theorem w_neI {i j : Int} (h : Q (.bl (!decide (i = j))) H) : rNe (.int i) (.int j) H Q := by
  refine ⟨rfl, ?_⟩
  have e : decide (V.int i = V.int j) = decide (i = j) := by
    by_cases z : i = j
    · subst z; simp
    · rw [decide_eq_false z, decide_eq_false fun q => z (V.int.inj q)]
  rw [e]; exact h
theorem w_eqS {i j : Str} (h : Q (.bl (decide (i = j))) H) : rEq (.str i) (.str j) H Q := by
  refine ⟨rfl, ?_⟩
  have e : decide (V.str i = V.str j) = decide (i = j) := by
    by_cases z : i = j
    · subst z; simp
    · rw [decide_eq_false z, decide_eq_false fun q => z (V.str.inj q)]
  rw [e]; exact h
theorem w_neS {i j : Str} (h : Q (.bl (!decide (i = j))) H) : rNe (.str i) (.str j) H Q := by
  refine ⟨rfl, ?_⟩
  have e : decide (V.str i = V.str j) = decide (i = j) := by
    by_cases z : i = j
    · subst z; simp
    · rw [decide_eq_false z, decide_eq_false fun q => z (V.str.inj q)]
  rw [e]; exact h
theorem w_isB {a b : Bool} (h : Q (.bl (decide (a = b))) H) : rIsB (.bl a) (.bl b) H Q := ⟨a, b, rfl, rfl, h⟩
theorem w_notB {a b : Bool} (h : Q (.bl (!decide (a = b))) H) : rNotB (.bl a) (.bl b) H Q := ⟨a, b, rfl, rfl, h⟩
theorem w_call (h : tr σ H fun vs H1 => sp vs H1 Q E) : tCall sp [] E tr σ H Q := by
  have e : (fun (vs : List V) (H1 : Hp) => sp (vs ++ []) H1 Q E) = fun vs H1 => sp vs H1 Q E := by funext vs H1; rw [List.append_nil]
  show tr σ H fun vs H1 => sp (vs ++ []) H1 Q E
  rw [e]; exact h
theorem w_CB {r : List V → Hp → VK → Prop} (h : tr σ H fun vs H1 => r vs H1 Q) : tCB r tr σ H Q := h
theorem w_nil (h : QA [] H) : tNil σ H QA := h
theorem w_cons (h : ta σ H fun x H1 => tr σ H1 fun xs H2 => QA (x :: xs) H2) : tCons ta tr σ H QA := h
theorem w_tup (h : tr σ H fun xs H1 => AllocT xs H1 Q) : tTup tr σ H Q := h
theorem w_lst (h : tr σ H fun xs H1 => AllocL xs H1 Q) : tLst tr σ H Q := h
theorem w_allocT {xs : List V} (l : xs.length.ble 100000 = true) (h : ∀ p, H p = none → Q (.ref p) (upd H p (.tup xs))) : AllocT xs H Q := ⟨szl l, h⟩
theorem w_allocL {xs : List V} (l : xs.length.ble 100000 = true) (h : ∀ p, H p = none → Q (.ref p) (upd H p (.lst xs))) : AllocL xs H Q := ⟨szl l, h⟩
theorem w_bl {c : Bool} {k : Bool → Prop} (h : k c) : BlC H (.bl c) k := ⟨c, rfl, h⟩
theorem w_andV (h : ta σ H fun x H1 => BlC H1 x fun c => if c = true then tb σ H1 Q else Q (.bl false) H1) : tAndV ta tb σ H Q := h
theorem w_orV (h : ta σ H fun x H1 => BlC H1 x fun c => if c = true then Q (.bl true) H1 else tb σ H1 Q) : tOrV ta tb σ H Q := h
theorem w_notV (h : ta σ H fun x H1 => BlC H1 x fun c => Q (.bl (!c)) H1) : tNotV ta σ H Q := h
theorem w_if (h : tt σ H fun c H1 => if c = true then ta σ H1 Q else tb σ H1 Q) : tIf tt ta tb σ H Q := h
theorem w_test (h : te σ H fun x H1 => BlC H1 x fun c => QB c H1) : tTest te σ H QB := h
theorem w_B (h : te σ H fun x H1 => BlC H1 x fun c => QB c H1) : tB te σ H QB := h
theorem w_and (h : tt σ H fun c H1 => if c = true then tu σ H1 QB else QB false H1) : tAnd tt tu σ H QB := h
theorem w_or (h : tt σ H fun c H1 => if c = true then QB true H1 else tu σ H1 QB) : tOr tt tu σ H QB := h
theorem w_not (h : tt σ H fun c H1 => QB (!c) H1) : tNot tt σ H QB := h
theorem w_chain (h : ta σ H fun x H1 => tb σ H1 fun y H2 => r x y H2 fun z H3 => BlC H3 z fun k => if k = true then tc σ H3 fun w' H4 => r' y w' H4 Q else Q (.bl false) H3) : tChain r r' ta tb tc σ H Q := h
theorem w_seq (h : t { D with nx := u D } σ H) : tSeq t u D σ H := h
theorem w_next (h : D.nx σ H) : tNext D σ H := h
theorem w_asg (h : te σ H fun x H1 => g x σ H1 D.nx) : tAsg te g D σ H := h
theorem w_gname {i : Nat} {QS : L2.St → Hp → Prop} (h : QS (σ.set i (some v)) H) : gName i v σ H QS := h
theorem w_gtup {K : PySem.W.Frag} {n : Nat} {a : Addr} {xs : List V} {QS : L2.St → Hp → Prop} (hs : SqT K H a xs) (hn : xs.length = n) (h : gs xs σ H QS) : gTup K n gs (.ref a) σ H QS := ⟨a, xs, rfl, hs, hn, h⟩
theorem w_gcons {xs : List V} {QS : L2.St → Hp → Prop} (h : g x σ H fun σ' H' => gs xs σ' H' QS) : gCons g gs (x :: xs) σ H QS := ⟨x, xs, rfl, h⟩
theorem w_gnil {QS : L2.St → Hp → Prop} (h : QS σ H) : gNil [] σ H QS := ⟨rfl, h⟩
theorem w_gsub {to ti : TE} {ts : TSet} {QS : L2.St → Hp → Prop} (h : to σ H fun o H1 => ti σ H1 fun i H2 => ts o i v H2 fun H3 => QS σ H3) : gSub to ti ts v σ H QS := h
theorem w_setL {p : Addr} {xs : List V} {i : Int} {j : Nat} {QH : Hp → Prop} (hp : H p = some (.lst xs)) (hj : ixN xs.length i = some j) (h : QH (upd H p (.lst (xs.set j v)))) : rSetL (.ref p) (.int i) v H QH := ⟨p, xs, i, j, rfl, rfl, hp, hj, h⟩
theorem w_ret (h : te σ H D.rt) : tRet te D σ H := h
theorem w_retN (h : D.rt .non H) : tRetN D σ H := h
theorem w_ifS {c : TT} (h : c σ H fun b H1 => if b = true then t D σ H1 else u D σ H1) : tIfS c t u D σ H := h
theorem w_drop (h : te σ H fun _ H1 => D.nx σ H1) : tDrop te D σ H := h
theorem w_aug {i : Nat} {ti : TIp} (e : σ[i]? = some (some v)) (h : te σ H fun y H1 => ti v y H1 fun z H2 => D.nx (σ.set i (some z)) H2) : tAug i te ti D σ H := ⟨v, e, h⟩
theorem w_ipI {f : Int → Int → Int} {i j : Int} (h : Q (.int (f i j)) H) : ipI f (.int i) (.int j) H Q := ⟨i, j, rfl, rfl, h⟩
theorem w_break (h : D.bk σ H) : tBreak D σ H := h
theorem w_cont (h : D.ct σ H) : tCont D σ H := h
theorem w_nx {n : L2.St → Hp → Prop} {r : VK} {b c : L2.St → Hp → Prop} (h : n σ H) : Ends.nx ⟨n, r, b, c⟩ σ H := h
theorem w_rt {n : L2.St → Hp → Prop} {r : VK} {b c : L2.St → Hp → Prop} (h : r v H) : Ends.rt ⟨n, r, b, c⟩ v H := h
theorem w_bk {n : L2.St → Hp → Prop} {r : VK} {b c : L2.St → Hp → Prop} (h : b σ H) : Ends.bk ⟨n, r, b, c⟩ σ H := h
theorem w_ct {n : L2.St → Hp → Prop} {r : VK} {b c : L2.St → Hp → Prop} (h : c σ H) : Ends.ct ⟨n, r, b, c⟩ σ H := h
theorem w_iteT {A B : Prop} (h : A) : if true = true then A else B := by rw [if_pos rfl]; exact h
theorem w_iteF {A B : Prop} (h : B) : if false = true then A else B := by rw [if_neg Bool.false_ne_true]; exact h
theorem w_ited {c A B : Prop} [Decidable c] (h1 : c → A) (h2 : ¬ c → B) : if decide c = true then A else B := by
  by_cases h : c
  · rw [if_pos (decide_eq_true h)]; exact h1 h
  · rw [if_neg (by rw [decide_eq_false h]; exact Bool.false_ne_true)]; exact h2 h
theorem w_iten {c A B : Prop} [Decidable c] (h1 : ¬ c → A) (h2 : c → B) : if (!decide c) = true then A else B := by
  by_cases h : c
  · rw [if_neg (by rw [decide_eq_true h]; exact Bool.false_ne_true)]; exact h2 h
  · rw [if_pos (by rw [decide_eq_false h]; rfl)]; exact h1 h
theorem w_iteb {b : Bool} {A B : Prop} (h1 : b = true → A) (h2 : b = false → B) : if b = true then A else B := by
  cases b
  · exact w_iteF (h2 rfl)
  · exact w_iteT (h1 rfl)
theorem w_itenb {b : Bool} {A B : Prop} (h1 : b = false → A) (h2 : b = true → B) : if (!b) = true then A else B := by
  cases b
  · exact w_iteT (h1 rfl)
  · exact w_iteF (h2 rfl)
theorem w_nott {A B : Prop} (h : B) : if (!true) = true then A else B := w_iteF h
theorem w_notf {A B : Prop} (h : A) : if (!false) = true then A else B := w_iteT h
theorem w_BM {K : PySem.W.Frag} {T : String} {r : V → List V → Hp → VK → Prop} (h : te σ H fun x H1 => tyV K T x H1 ∧ tr σ H1 fun xs H2 => r x xs H2 Q) : tBM K T r te tr σ H Q := h
theorem w_BM0 {K : PySem.W.Frag} {T : String} {r : V → List V → Hp → VK → Prop} (h : te σ H fun x H1 => tyV K T x H1 ∧ r x [] H1 Q) : tBM0 K T r te σ H Q := h
theorem w_sl {r : V → Option Int → Option Int → Hp → VK → Prop} {tl th : TO} (h : te σ H fun x H1 => tl σ H1 fun l H2 => th σ H2 fun u H3 => r x l u H3 Q) : tSl r te tl th σ H Q := h
theorem w_nopart (h : QO none H) : tNoPart σ H QO := h
theorem w_ixL {K : PySem.W.Frag} {p : Addr} {xs : List V} {i : Int} (hs : SqL K H p xs) (ha : atI xs i = some v) (h : Q v H) : rIxL K (.ref p) (.int i) H Q := ⟨p, xs, i, v, rfl, rfl, hs, ha, h⟩
theorem w_ixT {K : PySem.W.Frag} {p : Addr} {xs : List V} {i : Int} (hs : SqT K H p xs) (ha : atI xs i = some v) (h : Q v H) : rIxT K (.ref p) (.int i) H Q := ⟨p, xs, i, v, rfl, rfl, hs, ha, h⟩
theorem w_dnewK (h : ∀ p, H p = none → Q (.ref p) (upd H p (.dK []))) : tDNewK σ H Q := h
end
end TP

namespace PySem
open Sem (wp)
theorem tp_enum_new {v : Value} {o : Obj} {H : Heap → Prop} (B : Begins v o H) :
    Meets (Builtin.«enumerate.__new__» ⟨[.type "enumerate", v], []⟩) (fun _ R s => H s.heap ∧
      R (.ok (.ret (.ref (s.heap.push o).objs.size))) { s with heap := (s.heap.push o).push { cls := .type "enumerate", data := .fields #[.none, .bool false, .ref s.heap.objs.size, rawInt 0, .none, .none] } }) :=
  .of_wp fun prog w A R s h => by
    obtain ⟨hp, g, d, tk, os⟩ := s; obtain ⟨h1, h⟩ := h
    have hsub := sub_enumerate
    have q1 : ∀ {A' : Around} {E : Value → Shared → Prop} {Q : Value → Shared → Prop}, Q (.ref hp.objs.size) ⟨hp.push o, g, d, tk, os⟩ → wpAny (model prog w) A' (pyIter v) Q E ⟨hp, g, d, tk, os⟩ :=
      fun q => B.iter prog w _ _ ⟨hp, g, d, tk, os⟩ _ h1 q
    wp_walk using q1
    refine wpAny_stack_any fun st => wpAny_pure ?_
    split
    · rename_i c _ _ _ _ _
      cases (c == Value.type "enumerate") <;> (wp_walk using q1; exact ⟨_, rfl, h⟩)
    · wp_walk using q1
      exact ⟨_, rfl, h⟩
theorem tp_enum_begins {prog : Program} {w : World} {A : Around} {E : Value → Shared → Prop} {s : Shared} {v : Value} {o : Obj} {H : Heap → Prop} {Q : Value → Shared → Prop} (B : Begins v o H) (h1 : H s.heap)
    (h : ∀ h', IsEnum h' (s.heap.objs.size + 1) s.heap.objs.size 0 .none → h'.get? s.heap.objs.size = some o → h'.objs.size = s.heap.objs.size + 2 →
      (∀ b o, s.heap.get? b = some o → h'.get? b = some o) → Q (.ref (s.heap.objs.size + 1)) { s with heap := h' }) :
    wpAny (model prog w) A (call (.type "enumerate") [v]) Q E s := by
  refine callType_new F.called_enumerate (by decide) (F.typeCall_enumerate_1 _) (F.newCall_enumerate_1 _) (fun obj => F.args_object_init_2 obj _) F.entry_enumerate_new (tp_enum_new B) ⟨h1, ?_⟩
  have hz : (s.heap.push o).objs.size = s.heap.objs.size + 1 := Heap.size_push ..
  show _ ∧ _
  rw [hz]
  have he : IsEnum ((s.heap.push o).push { cls := .type "enumerate", data := .fields #[.none, .bool false, .ref s.heap.objs.size, rawInt 0, .none, .none] }) (s.heap.objs.size + 1) s.heap.objs.size 0 .none := by
    have q := Heap.get?_push_size (s.heap.push o) (o := { cls := .type "enumerate", data := .fields #[.none, .bool false, .ref s.heap.objs.size, rawInt 0, .none, .none] }) rfl
    rw [hz] at q; exact q
  exact ⟨⟨_, he, rfl⟩, h _ he (Heap.get?_push_of_some _ (Heap.get?_push_size _ B.free)) (by rw [Heap.size_push, hz]) fun b o x => Heap.get?_push_of_some _ (Heap.get?_push_of_some _ x)⟩
end PySem
namespace TP
open PySem PySem.Spec PyProof.Rows L2
theorem istuple_of {h : Heap} {a : Addr} {items : Array Value} (p : IsTup h a items) : h.IsTuple a items := by
  obtain ⟨o, ho, hc, n, hd⟩ := p
  exact ⟨o, ho, hc, n, hd⟩
theorem turn_enumT {P : Program} {w : World} {K : PySem.W.Frag} {elts : List Expr} {kk : Nat} {tpos : Pos} (a e it : Addr) :
    Turn P w K (.Tuple elts kk tpos) (IteT K a) [e, it] e (fun i h => (∃ old, IsEnum h e it ((i : Nat) : Int) old) ∧ h.IsTupleIter it a i ∧ e ≠ it) where
  mem := by simp
  obj := fun i h st b hb => by
    obtain ⟨⟨old, he⟩, ⟨o, ho, hc, hd⟩, _⟩ := st
    rcases (show b = e ∨ b = it by simpa using hb) with z | z
    · rw [z]; exact ⟨_, he, fun v q => nomatch q⟩
    · rw [z]; exact ⟨o, ho, fun v q => by rw [hd] at q; cases q⟩
  keep := fun i h h' st k => let ⟨⟨old, he⟩, hi, hne⟩ := st; ⟨⟨old, k e (by simp) _ he⟩, hi.at fun o q => k it (by simp) o q, hne⟩
  item := by
    intro X hP hw hK hc i pins s σ H E I hf st hg
    subst hP hw hK
    obtain ⟨⟨old, he⟩, hit, hne⟩ := st
    obtain ⟨xs, x, hq, hx⟩ := hg
    obtain ⟨its, rv, p, hz⟩ := I.tuple hq
    obtain ⟨u, hu, ru⟩ := rv.get hx
    have hel : e < s.heap.objs.size := Heap.lt_size he
    have hil : it < s.heap.objs.size := by obtain ⟨_, q, _⟩ := hit; exact Heap.lt_size q
    have hta := istuple_of p
    have nai : a ≠ it := fun z => by
      subst z
      obtain ⟨o1, h1, c1, _⟩ := hit
      obtain ⟨o2, h2, c2, _⟩ := hta
      rw [h1] at h2; cases h2
      rw [c1] at c2
      exact absurd (Value.type.inj c2) (by decide)
    have nae : a ≠ e := fun z => by
      subst z
      obtain ⟨o2, h2, c2, _⟩ := hta
      have h1 : s.heap.get? a = some _ := he
      rw [h1] at h2; cases h2
      exact absurd (Value.type.inj c2) (by decide)
    have D := Draws.tuple (prog := X.prog) (w := X.w) (A := X.A.in1) (by have := I.ok.hd hc; exact this) it a nai its.toArray
    have hlt : i < its.toArray.size := by
      obtain ⟨hh, _⟩ := List.getElem?_eq_some_iff.mp hu
      simpa using hh
    refine wpAny_pyNext_enum_itemD D he ⟨hit, hta⟩ hlt hne (by simp [Ne.symm nae, hne]) fun x' h' tk hx' ho hst' hT hsz hk => ?_
    have ex : x' = u := by
      have : its.toArray[i]? = some x' := hx'
      have q : its[i]? = some x' := by simpa using this
      rw [hu] at q; cases q; rfl
    subst ex
    refine ⟨_, rfl, wpAny_letOwnedTupleGo_enum (s := { s with heap := h', toks := tk + 1 }) ho fun h'' he' sb => ?_⟩
    have hT2 : h''.get? s.heap.objs.size = some { cls := .type "tuple", data := .seq #[.int i tk, x'] } := (sb.2 _ (Nat.ne_of_gt hel)).trans hT
    have new : ObjOk X.prog X.w (upd H s.heap.objs.size (.tup [.int (i : Nat), x])) h'' s.heap.objs.size (.tup [.int (i : Nat), x]) :=
      ⟨by show 2 ≤ sizeLine; decide, [.int i tk, x'], .cons ⟨_, rfl⟩ (.cons ru .nil), ⟨_, hT2, rfl, _, rfl⟩⟩
    have I1 : Inv X pins σ (upd H s.heap.objs.size (.tup [.int (i : Nat), x])) { s with heap := h'', toks := tk + 1 } :=
      I.turnedNew (ch := [e, it]) (fun b ob hb q => (sb.2 b (fun z => hb (by simp [z]))).trans (hk b ob (fun z => hb (by simp [z])) (fun z => hb (by simp [z])) q)) hf (Nat.le_refl _) new
    refine ⟨.ref s.heap.objs.size, _, I1, rfl, ⟨_, x, rfl, I.hok.fresh (Nat.le_refl _), rfl, fun ys hy => by rw [I.tuple_inj hy hq]; exact hx⟩, ⟨⟨x', ?_⟩, hst'.1.at fun o q => (sb.2 it (Ne.symm hne)).trans q, hne⟩, fun b hb => ?_⟩
    · have e1 : ((i + 1 : Nat) : Int) = (i : Int) + 1 := by omega
      rw [e1]; exact he'
    · have hb' : b < s.heap.objs.size := by
        rcases (show b = e ∨ b = it by simpa using hb) with z | z
        · rw [z]; exact hel
        · rw [z]; exact hil
      rw [upd_ne (Nat.ne_of_lt hb')]
      exact (hf b hb).1
  done := by
    intro X hP hw hK hc i pins s σ H E I hf st hg
    subst hP hw hK
    obtain ⟨⟨old, he⟩, hit, hne⟩ := st
    obtain ⟨xs, hq, hx⟩ := hg
    obtain ⟨its, rv, p, hz⟩ := I.tuple hq
    obtain ⟨f0, f1, f2, f3, f4, f5⟩ := hf it (by simp)
    have hl := rv.length
    have hta := istuple_of p
    have nai : a ≠ it := fun z => by
      subst z
      obtain ⟨o1, h1, c1, _⟩ := hit
      obtain ⟨o2, h2, c2, _⟩ := hta
      rw [h1] at h2; cases h2
      rw [c1] at c2
      exact absurd (Value.type.inj c2) (by decide)
    have D := Draws.tuple (prog := X.prog) (w := X.w) (A := X.A.in1) (by have := I.ok.hd hc; exact this) it a nai its.toArray
    have hi : i = its.toArray.size := by simp; omega
    exact wpAny_pyNext_enum_endD D he ⟨by rw [← hi]; exact hit, hta⟩ fun h' eb => ⟨rfl, I.turned (t' := s.toks) (fun b o hb q => eb b o hb q) f0 f1 f3 f4 f5⟩
  self := fun A i s Q E st h => let ⟨⟨_, he⟩, _⟩ := st; wpAny_pyIter_enum he h
theorem pi_enumT {X : Cx} {e : Expr} {ta : TA} {p pos tpos : Pos} {elts : List Expr} {kk : Nat} (hg : Gl X "enumerate") (hm : X.mg "enumerate" = none) (ha : PA X [e] ta) (hs : starEach [e] X.env = [(false, eval e X.env)] := by rfl) :
    PI X (.Tuple elts kk tpos) (.Call (.Name "enumerate" p) [e] [] pos) (iEnumT X.K ta) := by
  refine ⟨fun pins s σ H R I h => ?_⟩
  refine Call_ (ld_blt I hg hm boot_enumerate (PyProof.Rows.callWith_type1 (thn (ha.run pos pins s σ H _ I h) fun us s1 ⟨vs, H1, I1, r1, q1⟩ => ?_) hs rfl))
  obtain ⟨a, xs, ex, hq, q⟩ := q1
  subst ex
  obtain ⟨u, rfl, ru⟩ := vals1 r1
  have eu : u = .ref a := ru
  subst eu
  obtain ⟨its, rv, p', hz⟩ := I1.tuple hq
  refine tp_enum_begins (begins_tuple a its.toArray) (istuple_of p') fun h' he hit hsz hk => wpAny_pyIter_enum he ?_
  have I2 : Inv X pins σ H1 { s1 with heap := h' } := I1.kept (t' := s1.toks) hk
  refine ⟨s1.heap.objs.size + 1, [s1.heap.objs.size + 1, s1.heap.objs.size], _, _, H1, rfl, I2, turn_enumT a (s1.heap.objs.size + 1) s1.heap.objs.size, ⟨⟨.none, he⟩, ⟨_, hit, rfl, rfl⟩, Nat.succ_ne_self _⟩, fun b hb => ?_, q⟩
  have hle : s1.heap.objs.size ≤ b := by
    rcases (show b = s1.heap.objs.size + 1 ∨ b = s1.heap.objs.size by simpa using hb) with z | z
    · rw [z]; exact Nat.le_add_right _ _
    · rw [z]; exact Nat.le_refl _
  exact I1.fpOk hle (I1.hok.fresh hle)
theorem walk_enumT {K : PySem.W.Frag} {a : Addr} {xs : List V} : Walk (IteT K a) xs.length (fun H => SqT K H a xs) (YPair (fun i => some (.int (i : Nat))) (fun i => xs[i]?)) where
  goes := fun i H hi h => by
    obtain ⟨x, hx⟩ : ∃ x, xs[i]? = some x := ⟨_, List.getElem?_eq_getElem hi⟩
    exact ⟨xs, x, h, hx⟩
  stops := fun H h => ⟨xs, h, rfl⟩
  yields := fun i H v H' _ h ⟨T, x, e1, e2, e3, e4⟩ => ⟨T, .int (i : Nat), x, e1, e2, e3, rfl, e4 xs h⟩
end TP

namespace TP
open PySem PySem.Spec PyProof.Rows L2
theorem ty_dp {K : PySem.W.Frag} {H : Hp} {v : V} {d : PyData} (h : Dp K H v d) : TyX K H v (.type (tyD d)) := by
  cases h with
  | non => exact .base .non
  | bl b => exact .base (.bl b)
  | int i => exact .base (.int i)
  | str x => exact .base (.str x)
  | lst h _ =>
    rcases h with (h | ⟨o, h⟩) | ⟨o, its, n, h, c, _⟩
    · exact .base (.lst h)
    · exact .base (.frz h)
    · exact .kList h c
  | tup h _ =>
    rcases h with (h | ⟨o, h⟩) | ⟨o, its, n, h, c, _⟩
    · exact .base (.tup h)
    · exact .fTuple h
    · exact .kTuple h c
/-- isinstance of a value of that type -/
theorem w_isi {K : PySem.W.Frag} {H : Hp} {Q : VK} {v : V} {t T : String} {b : Bool} (h : TyX K H v (.type t)) (e : kitB t T = some b) (q : Q (.bl b) H) : rIsi K [v, .ty T] H Q := ⟨v, .ty T, .type t, .type T, b, rfl, .ty T, h, kit_ty e, q⟩
theorem w_isiD {K : PySem.W.Frag} {H : Hp} {Q : VK} {v : V} {d : PyData} {T : String} {b : Bool} (h : Dp K H v d) (e : kitB (tyD d) T = some b) (q : Q (.bl b) H) : rIsi K [v, .ty T] H Q := w_isi (ty_dp h) e q
theorem foldl_cat (l : List (Array Nat)) : ∀ acc : Array Nat, l.foldl (· ++ ·) acc = acc ++ ((l.map Array.toList).flatten).toArray := by
  induction l with
  | nil => intro acc; simp
  | cons a r ih => intro acc; rw [List.foldl_cons, ih]; apply Array.ext'; simp
theorem op_mul_str {X : Cx} : OpR X (binaryOp .Mult) (fun x y H Q => ∃ (z : Str) (n : Nat), x = .str z ∧ y = .int (n : Nat) ∧ z.length * n ≤ 100000 ∧ n ≤ 100000 ∧ Q (.str (repS n z)) H) := by
  intro pins s σ H x y v u Q I rx ry h
  obtain ⟨z, n, rfl, rfl, hz, hn, q⟩ := h
  obtain ⟨t, rfl⟩ := rx
  obtain ⟨t', rfl⟩ := ry
  refine PySem.P.mul_str ?_ (fun _ _ => ?_) (fun _ _ => ?_) ?_
  · rw [decide_eq_false (show ¬ ((n : Int) < -(2 ^ 63)) by omega), decide_eq_false (show ¬ ((n : Int) ≥ 2 ^ 63) by omega)]; rfl
  · rename_i h1 h2
    have hn1 : 1 ≤ n := by omega
    have hz2 : (z.length : Int) * (n : Int) ≤ 100000 := by
      have q := Int.ofNat_le.mpr hz
      rw [Int.natCast_mul] at q
      exact q
    have hd : (z.length : Int) ≤ (2 ^ 63 - 1) / (n : Int) := Int.le_ediv_of_mul_le (by omega) (by omega)
    omega
  · unfold Builtin.Str.tooLong
    have e : ((n : Int)).toNat = n := by omega
    rw [e]
    exact decide_eq_false (by have := sz_le hz; omega)
  · have e : ((n : Int)).toNat = n := by omega
    rw [e]
    have fin : ∀ y : Str, y = repS n z → Made.post (Made.str y) (EP X pins σ Q) s := fun y ey => by
      subst ey
      refine ⟨?_, .str _, H, I.tok _, ⟨_, rfl⟩, q⟩
      show (repS n z).length ≤ sizeLine
      have el : (repS n z).length = z.length * n := by
        show ((List.replicate n z.cps.toList).flatten).toArray.size = z.cps.size * n
        simp [Nat.mul_comm]
      rw [el]; exact sz_le hz
    by_cases h1 : (n : Int) < 1
    · rw [if_pos h1]
      refine fin _ ?_
      have : n = 0 := by omega
      subst this
      rfl
    · rw [if_neg h1]
      by_cases h2 : ((n : Int) == 1 || z.length == 0) = true
      · rw [if_pos h2]
        have ez : z = repS n z := by
          rcases Bool.or_eq_true_iff.mp h2 with h3 | h3
          · have : n = 1 := by have := eq_of_beq h3; omega
            subst this
            unfold repS
            simp
          · have h4 : z.cps.size = 0 := by simpa [Str.length] using h3
            have h5 : z.cps = #[] := Array.eq_empty_of_size_eq_zero h4
            unfold repS
            cases z with
            | mk c =>
              have h6 : c = #[] := h5
              subst h6
              simp
        refine ⟨.str z, H, I, ⟨t, rfl⟩, ?_⟩
        rw [ez]
        rw [← ez]
        rw [← ez] at q
        exact q
      · rw [if_neg h2]
        refine fin _ ?_
        unfold repS
        rw [foldl_cat]
        simp
end TP

namespace TP
open PySem PySem.Spec PyProof.Rows L2
section
variable {P : Program} {w : World} {H H0 : Hp} {h h' : Heap} {p : Addr}
theorem objok_retrack {o u : HO} {a : Addr} (hp : H p = some o) (no : ∀ y, o ≠ .own y) (nt : ∀ xs, o ≠ .tup xs) {v : HO} (x : ObjOk P w H h a v) : ObjOk P w (upd H p u) h a v := by
  refine x.stay (fun b w' _ e => e) (fun b e => ?_) fun b xs e => ?_
  · exact (upd_ne (ne_of e hp fun z => no a z.symm)).trans e
  · exact (upd_ne (ne_of e hp fun z => nt xs z.symm)).trans e
theorem hok_retrack {o u : HO} (ok : HOk P w H h) (hp : H p = some o) (no : ∀ y, o ≠ .own y) (nt : ∀ xs, o ≠ .tup xs) (new : ObjOk P w (upd H p u) h p u) : HOk P w (upd H p u) h := fun a v e => by
  by_cases z : a = p
  · subst z; rw [upd_same] at e; cases e; exact new
  · rw [upd_ne z] at e
    exact objok_retrack hp no nt (ok a v e)
theorem pool_of_lst {s d c : Int} (ok : HOk P w H h) (hp : H p = some (.lst [.int s, .int d, .int c])) (hv : PoolV s d c) : HOk P w (upd H p (poolO p)) h := by
  refine hok_retrack ok hp (fun _ => nofun) (fun _ => nofun) ?_
  obtain ⟨_, its, n, r, e⟩ := ok p _ hp
  exact ⟨⟨s, d, c, its, n, r, hv, e⟩, ⟨_, e⟩, fun h1 h2 ⟨s, d, c, its, n, r, hv, e⟩ k => ⟨s, d, c, its, n, r, hv, k _ e⟩⟩
theorem lst_of_pool (ok : HOk P w H h) (hp : H p = some (poolO p)) : ∃ s d c, PoolV s d c ∧ HOk P w (upd H p (.lst [.int s, .int d, .int c])) h := by
  obtain ⟨⟨s, d, c, its, n, r, hv, e⟩, _, _⟩ := ok p _ hp
  exact ⟨s, d, c, hv, hok_retrack ok hp (fun _ => nofun) (fun _ => nofun) ⟨by show 3 ≤ sizeLine; decide, its, n, r, e⟩⟩
theorem un_retrack {fs ex : List Addr} {o u : HO} (un : Un fs ex H0 H h h') (hp : H p = some o) (nt : ∀ xs, o ≠ .tup xs) (nf : ∀ a b, o ≠ .frz a b) (nb : ∀ ps, o ≠ .tbl ps) : Un fs ex H0 (upd H p u) h h' where
  keep := un.keep
  slot := un.slot
  free := fun b ob e n hx => by
    have z := un.free b ob e n hx
    rw [upd_ne (fun q => by rw [q, hp] at z; cases z)]; exact z
  there := un.there
  tups := fun b xs e => by have z := un.tups b xs e; exact (upd_ne (ne_of z hp fun q => nt xs q.symm)).trans z
  frzs := fun b ob v e => by have z := un.frzs b ob v e; exact (upd_ne (ne_of z hp fun q => nf _ _ q.symm)).trans z
  tbls := fun b ps e => by
    obtain ⟨more, z⟩ := un.tbls b ps e
    exact ⟨more, (upd_ne (ne_of z hp fun q => nb _ q.symm)).trans z⟩
/-- the entry's abstract heap told otherwise at p -/
theorem un_retrack0 {fs ex : List Addr} {o u : HO} (un : Un fs ex (upd H0 p u) H h h') (hp : H0 p = some o) (nt : ∀ xs, o ≠ .tup xs) (nf : ∀ a b, o ≠ .frz a b) (nb : ∀ ps, o ≠ .tbl ps) : Un fs ex H0 H h h' := by
  have off : ∀ b, H0 b = none → upd H0 p u b = none := fun b n => by rw [upd_ne (fun q => by rw [q, hp] at n; cases n)]; exact n
  refine ⟨fun b ob e n => un.keep b ob e (off b n), fun b ob e n => un.slot b ob e (off b n), fun b ob e n => un.free b ob e (off b n), un.there, fun b xs e => un.tups b xs ?_, fun b ob v e => un.frzs b ob v ?_, fun b ps e => un.tbls b ps ?_⟩
  · exact (upd_ne (ne_of e hp fun q => nt xs q.symm)).trans e
  · exact (upd_ne (ne_of e hp fun q => nf _ _ q.symm)).trans e
  · exact (upd_ne (ne_of e hp fun q => nb _ q.symm)).trans e
theorem env_retrack {K : PySem.W.Frag} {mg : Str → Option Value} {base : Heap} {A : Around} {outer : List Env} {s : Shared} {o u : HO} (e0 : Env0 P w K mg base A outer s H) (hp : H p = some o) (ok : HOk P w (upd H p u) s.heap) : Env0 P w K mg base A outer s (upd H p u) := by
  have off : ∀ b, H b = none → upd H p u b = none := fun b n => by rw [upd_ne (fun q => by rw [q, hp] at n; cases n)]; exact n
  exact ⟨e0.frames, e0.mod, fun b ob e => ⟨(e0.bs b ob e).1, off b (e0.bs b ob e).2⟩, e0.bsz, e0.funs, fun b hb => off b (e0.frf b hb), ok, e0.bare⟩
end
section
variable {P : Program} {w : World} {K : PySem.W.Frag} {mg : Str → Option Value} {base : Heap} {k : Nat} {f : Addr} {fd : FuncData} {ps : List Str}
theorem draw_wrap (F : FnG P w K mg base CX0 k f fd ps spDrawC) (hl : ps.length = 2) : FnG P w K mg base CX0 k f fd ps spDraw := by
  refine ⟨fun vs H Q E ⟨p, m, e, _⟩ => by rw [e, hl]; rfl, fun A outer s H args us vs Q E hr hg e0 hb r hsp => ?_⟩
  obtain ⟨p, m, rfl, hp, m0, m1, q⟩ := hsp
  obtain ⟨s0, d0, c0, hv, ok1⟩ := lst_of_pool e0.hok hp
  refine codeAny_mono (F.run A outer s (upd H p (.lst [.int s0, .int d0, .int c0])) args us [.ref p, .int m] (fun v H1 => ∃ (r s' d' c' : Int), v = .int r ∧ 0 ≤ r ∧ r < m ∧ SameB p (upd H p (.lst [.int s0, .int d0, .int c0])) H1 ∧ H1 p = some (.lst [.int s', .int d', .int c']) ∧ PoolV s' d' c') E hr hg (env_retrack e0 hp ok1) hb r
    ⟨p, s0, d0, c0, m, rfl, upd_same, hv, m0, m1, fun r s' d' c' H' h0 h1 sb hq hv' => ⟨r, s', d', c', rfl, h0, h1, sb, hq, hv'⟩⟩) fun z s' hz => ?_
  cases z with
  | error e => exact hz
  | ok fl =>
    cases fl with
    | next => exact hz
    | brk => exact hz
    | cont => exact hz
    | ret u =>
      obtain ⟨v, H1, os, bare, un, hok1, rv, r, s2, d2, c2, rfl, h0, h1, sb, hq, hv2⟩ := hz
      refine ⟨.int r, upd H1 p (poolO p), os, bare, ?_, pool_of_lst hok1 hq hv2, rv, q r _ h0 h1 fun b o e => ?_⟩
      · exact un_retrack0 (un_retrack un hq (fun _ => nofun) (fun _ _ => nofun) fun _ => nofun) hp (fun _ => nofun) (fun _ _ => nofun) fun _ => nofun
      · by_cases z : b = p
        · subst z; rw [hp] at e; cases e; exact upd_same
        · rw [upd_ne z]; exact sb b o z ((upd_ne z).trans e)
theorem pool_wrap (F : FnG P w K mg base CX0 k f fd ps spPoolC) (hl : ps.length = 1) : FnG P w K mg base CX0 k f fd ps spPool := by
  refine ⟨fun vs H Q E ⟨n, e, _⟩ => by rw [e, hl]; rfl, fun A outer s H args us vs Q E hr hg e0 hb r hsp => ?_⟩
  obtain ⟨n, rfl, q⟩ := hsp
  refine codeAny_mono (F.run A outer s H args us [.int n] (fun v H1 => ∃ (p : Addr) (s' d' c' : Int), v = .ref p ∧ H p = none ∧ Same H H1 ∧ H1 p = some (.lst [.int s', .int d', .int c']) ∧ PoolV s' d' c') E hr hg e0 hb r
    ⟨n, rfl, fun p s' d' c' H' h0 sb hq hv' => ⟨p, s', d', c', rfl, h0, sb, hq, hv'⟩⟩) fun z s' hz => ?_
  cases z with
  | error e => exact hz
  | ok fl =>
    cases fl with
    | next => exact hz
    | brk => exact hz
    | cont => exact hz
    | ret u =>
      obtain ⟨v, H1, os, bare, un, hok1, rv, p, s2, d2, c2, rfl, h0, sb, hq, hv2⟩ := hz
      refine ⟨.ref p, upd H1 p (poolO p), os, bare, ?_, pool_of_lst hok1 hq hv2, rv, q p _ h0 (fun b o e => ?_) upd_same⟩
      · exact un_retrack un hq (fun _ => nofun) (fun _ _ => nofun) fun _ => nofun
      · rw [upd_ne (ne_of_none e h0)]; exact sb b o e
end
section
variable {P : Program} {w : World} {K : PySem.W.Frag} {mg : Str → Option Value} {base : Heap} {k : Nat} {x : Str} {st : Stmt} {ps : List Str}
theorem has_draw (F : Has P w K mg base CX0 k x st ps spDrawC) (hl : ps.length = 2) : Has P w K mg base CX0 k x st ps spDraw := by
  obtain ⟨fd, D, G⟩ := F.ex
  exact ⟨⟨fd, D, draw_wrap G hl⟩, F.glo⟩
theorem has_pool (F : Has P w K mg base CX0 k x st ps spPoolC) (hl : ps.length = 1) : Has P w K mg base CX0 k x st ps spPool := by
  obtain ⟨fd, D, G⟩ := F.ex
  exact ⟨⟨fd, D, pool_wrap G hl⟩, F.glo⟩
end
section
variable {J : It} {n : Nat} {G : Hp → Prop} {Y : Nat → Hp → V → Hp → Prop} {g : TG} {tt : TT} {te : TE} {vs : List Nat} {σ : L2.St} {H1 : Hp} {D : Addr} {Q : VK}
end
end TP

namespace TP
open PySem PySem.Spec PyProof.Rows L2
section
variable {J : It} {n : Nat} {G : Hp → Prop} {Y : Nat → Hp → V → Hp → Prop} {g : TG} {tt : TT} {te : TE} {tb : TS} {De : Ends} {wi : TI} {vs : List Nat} {σ : L2.St} {H H1 H2 : Hp} {D : Addr} {Q : VK} {Acc : Nat → List V → Hp → Prop} {K : PySem.W.Frag}
theorem w_for (h : wi σ H fun J H1 => ForOk J g tb De σ H1) : tFor wi g tb De σ H := h
theorem w_lc (h : wi σ H fun J H1 => ∀ D, H1 D = none → LcOk J g tt te vs σ H1 D Q) : tLc wi g tt te vs σ H Q := h
theorem w_yes {QB : Bool → Hp → Prop} (h : QB true H) : tYes σ H QB := h
theorem for_go (w : Walk J n G Y) (Pv : Nat → L2.St → Hp → Prop) (h0 : Pv 0 σ H) (hG : ∀ i σ H, i ≤ n → Pv i σ H → G H)
    (hs : ∀ i x σ H H', i < n → Pv i σ H → Y i H x H' → g x σ H' fun σ2 H2 => tb { De with nx := Pv (i + 1), ct := Pv (i + 1), bk := De.nx } σ2 H2) (hd : ∀ σ H, Pv n σ H → De.nx σ H) : ForOk J g tb De σ H := for_it w Pv h0 hG hs hd
theorem lc_go (w : Walk J n G Y) (Acc : Nat → List V → Hp → Prop) (hD : H1 D = none) (hG : ∀ H, Same H1 H → G H) (h0 : Acc 0 [] (upd H1 D (.lst [])))
    (hs : ∀ i x H H' acc, i < n → Same H1 H → H D = some (.lst acc) → acc.length ≤ i → Acc i acc H → Y i H x H' → g x (wipe σ vs) H' fun σ2 H2 => wipe σ2 vs = wipe σ vs ∧ tt σ2 H2 fun b H3 =>
      if b = true then te σ2 H3 fun y H4 => LcY H1 D Acc i y H4 else LcI H1 D Acc (i + 1) H3)
    (hd : ∀ acc H, Same H1 H → H D = some (.lst acc) → acc.length ≤ n → Acc n acc H → Q (.ref D) H) : LcOk J g tt te vs σ H1 D Q :=
  lc_it w (fun i H => LcI H1 D Acc i H) ⟨[], same_new hD, upd_same, Nat.le_refl _, h0⟩ (fun i H _ ⟨_, s, _⟩ => hG H s) (fun i x H H' hi ⟨acc, s, e, l, a⟩ hy => hs i x H H' acc hi s e l a hy) fun H ⟨acc, s, e, l, a⟩ => hd acc H s e l a
theorem lc_y {i : Nat} {y : V} {acc : List V} (hD : H1 D = none) (s : Same H1 H) (e : H D = some (.lst acc)) (l : acc.length ≤ i) (hi : i < 100000) (a : Acc (i + 1) (acc ++ [y]) (upd H D (.lst (acc ++ [y])))) : LcY H1 D Acc i y H :=
  ⟨acc, e, sz_lt (by omega), acc ++ [y], same_mut s hD, upd_same, by simp; omega, a⟩
theorem lc_skip {i : Nat} {acc : List V} (s : Same H1 H) (e : H D = some (.lst acc)) (l : acc.length ≤ i) (a : Acc (i + 1) acc H) : LcI H1 D Acc (i + 1) H := ⟨acc, s, e, Nat.le_succ_of_le l, a⟩
/-- each element by its place: scalars, or anything that does not lean on the heap -/
theorem lc_map (w : Walk J n G Y) (hn : n ≤ 100000) (f : Nat → V → Prop) (hD : H1 D = none) (hG : ∀ H, Same H1 H → G H)
    (hs : ∀ i x H H', i < n → Same H1 H → Y i H x H' → ∀ Qy : VK, (∀ y H4, Same H H4 → f i y → Qy y H4) → g x (wipe σ vs) H' fun σ2 H2 => wipe σ2 vs = wipe σ vs ∧ te σ2 H2 Qy)
    (hd : ∀ acc H, Same H1 H → H1 D = none → H D = some (.lst acc) → acc.length = n → (∀ i y, acc[i]? = some y → f i y) → Q (.ref D) H)
    (mono : ∀ {x σ H} {Q Q' : L2.St → Hp → Prop}, (∀ σ H, Q σ H → Q' σ H) → g x σ H Q → g x σ H Q') : LcOk J g tYes te vs σ H1 D Q := by
  let AccM : Nat → List V → Hp → Prop := fun i acc H => acc.length = i ∧ ∀ (j : Nat) (y : V), acc[j]? = some y → f j y
  refine lc_go w AccM hD hG ⟨rfl, fun j y e => by simp at e⟩ (fun i x H H' acc hi s e l a hy => ?_) fun acc H s e _ a => hd acc H s hD e a.1 a.2
  refine mono (fun σ2 H2 q => ⟨q.1, ?_⟩) (hs i x H H' hi s hy (fun y H4 => LcY H1 D AccM i y H4) fun y H4 s4 fy => lc_y (Acc := AccM) hD (s.trans s4) (s4 _ _ e) l (by omega) ⟨by simp [a.1], fun j z ej => ?_⟩)
  · exact w_yes (w_iteT q.2)
  · by_cases q : j < acc.length
    · rw [List.getElem?_append_left q] at ej; exact a.2 j z ej
    · rw [List.getElem?_append_right (Nat.le_of_not_lt q)] at ej
      have q2 : j = acc.length := by
        obtain ⟨h1, _⟩ := List.getElem?_eq_some_iff.mp ej
        simp at h1; omega
      subst q2
      simp at ej
      subst ej
      rw [a.1]; exact fy
theorem mono_gname {j : Nat} : ∀ {x σ H} {Q Q' : L2.St → Hp → Prop}, (∀ σ H, Q σ H → Q' σ H) → gName j x σ H Q → gName j x σ H Q' := fun h q => h _ _ q
variable {R : It → Hp → Prop} {ta : TA} {a : Addr} {xs : List V}
theorem w_iTup (h : te σ H (OnT K R)) : iTup K te σ H R := h
theorem w_iList (h : te σ H (OnL K R)) : iList K te σ H R := h
theorem w_iStr (h : te σ H (OnS R)) : iStr te σ H R := h
theorem w_iRng1 (h : ta σ H (OnR1 R)) : iRng1 ta σ H R := h
theorem w_iRng2 (h : ta σ H (OnR2 R)) : iRng2 ta σ H R := h
theorem w_iEnumT (h : ta σ H (OnE K R)) : iEnumT K ta σ H R := h
theorem w_onT (hs : SqT K H a xs) (h : R (Itt K a) H) : OnT K R (.ref a) H := ⟨a, rfl, ⟨xs, hs⟩, h⟩
theorem w_onL (hs : SqL K H a xs) (h : R (Itl K a) H) : OnL K R (.ref a) H := ⟨a, rfl, ⟨xs, hs⟩, h⟩
theorem w_onS {x : Str} (h : R (Its x) H) : OnS R (.str x) H := ⟨x, rfl, h⟩
theorem w_onR1 {j : Int} (h1 : -(2 ^ 62) ≤ j ∧ j < 2 ^ 62) (h : R (Itr 0 j.toNat) H) : OnR1 R [.int j] H := ⟨j, rfl, h1.1, h1.2, h⟩
theorem w_onE (hs : SqT K H a xs) (h : R (IteT K a) H) : OnE K R [.ref a] H := ⟨a, xs, rfl, hs, h⟩
end
section
variable {X : Cx}
theorem c_len : CallR X (.builtin "len") (rLenV X.K) := call_len
theorem c_abs : CallR X (.builtin "abs") rAbs := call_abs
theorem c_max2 (hc : X.calm = true) : CallR X (.builtin "max") rMx2 := call_max2 hc
theorem c_min2 (hc : X.calm = true) : CallR X (.builtin "min") rMn2 := call_min2 hc
theorem c_int1 : CallR X (.type "int") rInt1 := call_int1
theorem c_tuple : CallR X (.type "tuple") (rTupS X.K) := call_tuple_of
theorem c_divmod : CallR X (.builtin "divmod") rDivW := call_divmodW
theorem o_inSign : OpR X (compareOp .In) rInSign := op_in_sign
theorem o_notN : OpR X (compareOp .IsNot) rNotN := op_notN
theorem o_leS : OpR X (compareOp .LtE) rLeS := op_le_str
theorem o_addS : OpR X (binaryOp .Add) rAddS := op_add_str
theorem o_mulS : OpR X (binaryOp .Mult) rMulS := op_mul_str
end
section
variable {σ : L2.St} {H : Hp} {Q : VK} {K : PySem.W.Frag} {v x y : V} {a p : Addr} {xs ys : List V}
theorem w_lenT (hs : SqT K H a xs) (h : Q (.int (xs.length : Nat)) H) : rLenV K [.ref a] H Q := ⟨_, _, rfl, .inr ⟨xs, hs, rfl⟩, h⟩
theorem w_lenL (hs : SqL K H a xs) (h : Q (.int (xs.length : Nat)) H) : rLenV K [.ref a] H Q := ⟨_, _, rfl, .inl ⟨xs, hs, rfl⟩, h⟩
theorem w_lenS {z : Str} (hz : z.length ≤ sizeLine) (h : Q (.int (z.length : Nat)) H) : rLenV K [.str z] H Q := ⟨_, _, rfl, ⟨hz, rfl⟩, h⟩
theorem w_abs {i : Int} (h : Q (.int (if i < 0 then -i else i)) H) : rAbs [.int i] H Q := ⟨i, rfl, h⟩
theorem w_mx2 {i j : Int} (h : Q (.int (if j > i then j else i)) H) : rMx2 [.int i, .int j] H Q := ⟨i, j, rfl, h⟩
theorem w_mn2 {i j : Int} (h : Q (.int (if j < i then j else i)) H) : rMn2 [.int i, .int j] H Q := ⟨i, j, rfl, h⟩
theorem w_int1 {i : Int} (h : Q (.int i) H) : rInt1 [.int i] H Q := .inl ⟨i, rfl, h⟩
theorem w_tupL (hs : SqL K H a xs) (h : ∀ l, H l = none → Q (.ref l) (upd H l (.tup xs))) : rTupS K [.ref a] H Q := ⟨a, xs, rfl, .inl ⟨hs, h⟩⟩
theorem w_divW {i j : Int} (c : CDivP i j) (h : ∀ p, H p = none → Q (.ref p) (upd H p (.tup [.int (i / j), .int (i % j)]))) : rDivW [.int i, .int j] H Q := ⟨i, j, rfl, c, h⟩
theorem w_inSign {c : Nat} {z : Str} (h : Q (.bl (decide (c ∈ z.cps.toList))) H) : rInSign (.str ⟨#[c]⟩) (.str z) H Q := ⟨c, z, rfl, rfl, h⟩
theorem w_notInSign {c : Nat} {z : Str} (h : Q (.bl (!decide (c ∈ z.cps.toList))) H) : rNotInSign (.str ⟨#[c]⟩) (.str z) H Q := ⟨c, z, rfl, rfl, h⟩
theorem w_isN (h : Q (.bl (decide (x = .non))) H) : rIsN x .non H Q := ⟨rfl, h⟩
theorem w_notN (h : Q (.bl (!decide (x = .non))) H) : rNotN x .non H Q := ⟨rfl, h⟩
theorem w_isNN (h : Q (.bl true) H) : rIsN .non .non H Q := ⟨rfl, h⟩
theorem w_isNI {i : Int} (h : Q (.bl false) H) : rIsN (.int i) .non H Q := ⟨rfl, by have e : decide (V.int i = V.non) = false := decide_eq_false nofun; rw [e]; exact h⟩
theorem w_isNR (h : Q (.bl false) H) : rIsN (.ref a) .non H Q := ⟨rfl, by have e : decide (V.ref a = V.non) = false := decide_eq_false nofun; rw [e]; exact h⟩
theorem w_notNN (h : Q (.bl false) H) : rNotN .non .non H Q := ⟨rfl, h⟩
theorem w_notNI {i : Int} (h : Q (.bl true) H) : rNotN (.int i) .non H Q := ⟨rfl, by have e : decide (V.int i = V.non) = false := decide_eq_false nofun; rw [e]; exact h⟩
theorem w_notNR (h : Q (.bl true) H) : rNotN (.ref a) .non H Q := ⟨rfl, by have e : decide (V.ref a = V.non) = false := decide_eq_false nofun; rw [e]; exact h⟩
theorem w_ltS {i j : Str} (h : Q (.bl (decide (i.cps.toList < j.cps.toList))) H) : rLtS (.str i) (.str j) H Q := ⟨i, j, rfl, rfl, h⟩
theorem w_leS {i j : Str} (h : Q (.bl (!decide (j.cps.toList < i.cps.toList))) H) : rLeS (.str i) (.str j) H Q := ⟨i, j, rfl, rfl, h⟩
theorem w_addS {i j : Str} (hz : i.length + j.length ≤ sizeLine) (h : Q (.str (i ++ j)) H) : rAddS (.str i) (.str j) H Q := ⟨i, j, rfl, rfl, hz, h⟩
theorem w_mulS {z : Str} {i : Int} {n : Nat} (e : i = (n : Int)) (h1 : z.length * n ≤ 100000) (h2 : n ≤ 100000) (h : Q (.str (repS n z)) H) : rMulS (.str z) (.int i) H Q := ⟨z, n, rfl, by rw [e], h1, h2, h⟩
theorem w_sum {ns : List Int} (hs : SqL K H a (ns.map V.int)) (h : Q (.int ns.sum) H) : rSum K [.ref a] H Q := ⟨a, ns, rfl, hs, h⟩
theorem w_all {bs : List Bool} (hs : SqL K H a (bs.map V.bl)) (h : Q (.bl (bs.all id)) H) : rAll K [.ref a] H Q := ⟨a, bs, rfl, hs, h⟩
theorem w_cat {l b : Addr} {xs zs : List V} (h1 : H l = some (.lst xs)) (h2 : H b = some (.lst zs)) (hz : xs.length + zs.length ≤ sizeLine) (h : ∀ p, H p = none → Q (.ref p) (upd H p (.lst (xs ++ zs)))) : rCat (.ref l) (.ref b) H Q := ⟨l, b, xs, zs, rfl, rfl, h1, h2, hz, h⟩
theorem w_append {l : Addr} (h1 : H l = some (.lst xs)) (hz : xs.length < sizeLine) (h : Q .non (upd H l (.lst (xs ++ [y])))) : rAppend (.ref l) [y] H Q := ⟨l, xs, y, rfl, rfl, h1, hz, h⟩
theorem w_slL {lo hi : Option Int} (hs : SqL K H a xs) (h : ∀ p, H p = none → Q (.ref p) (upd H p (.lst (cutV xs lo hi)))) : rSlL K (.ref a) lo hi H Q := ⟨a, xs, rfl, hs, h⟩
theorem w_slS {z : Str} {lo hi : Option Int} (hz : z.length ≤ sizeLine) (h : Q (.str (cutS z lo hi)) H) : rSlS (.str z) lo hi H Q := ⟨z, rfl, hz, h⟩
theorem w_ixS {z : Str} {i : Int} {c : Nat} (hz : z.length ≤ sizeLine) (ha : atI z.cps.toList i = some c) (h : Q (.str ⟨#[c]⟩) H) : rIxS (.str z) (.int i) H Q := ⟨z, i, c, rfl, rfl, hz, ha, h⟩
theorem w_M1 {r : V → List V → Hp → VK → Prop} {to te : TE} (h : to σ H fun x H1 => (∃ a, x = .str a) ∧ te σ H1 fun y H2 => r x [y] H2 Q) : tM1 r to te σ H Q := h
theorem w_strx {z : Str} {C : Prop} (h : C) : (∃ a, V.str z = .str a) ∧ C := ⟨⟨z, rfl⟩, h⟩
theorem w_tyL {C : Prop} (h1 : H a = some (.lst xs)) (h : C) : tyV K "list" (.ref a) H ∧ C := ⟨.inl ⟨rfl, xs, SqL.of h1⟩, h⟩
theorem w_join {s : Str} {ws : List Str} (hs : SqL K H a (ws.map V.str)) (hz : (ws.map (·.length)).sum + ws.length * s.length ≤ 16777216) (h : Q (.str (Txt.join s ws)) H) : rJoin K (.str s) [.ref a] H Q := ⟨s, a, ws, rfl, rfl, .inl hs, hz, h⟩
theorem w_dget2 {td ty tx : TE} (h : td σ H fun x H1 => ∃ a, x = .ref a ∧ IsD H1 a ∧ ty σ H1 fun y H2 => tx σ H2 fun z H3 => ∃ o, DGet H3 a y o ∧ Q (o.getD z) H3) : tDGet2 td ty tx σ H Q := h
theorem w_isD {kvs : List (Key × V)} {k : Addr → Prop} (h1 : H a = some (.dK kvs)) (h : k a) : ∃ b, V.ref a = .ref b ∧ IsD H b ∧ k b := ⟨a, rfl, .inl ⟨kvs, .inl h1⟩, h⟩
theorem w_dgetk {kvs : List (Key × V)} {n : Str} {k : Option V → Prop} (h1 : H a = some (.dK kvs)) (h : k (valV kvs (.inr n))) : ∃ o, DGet H a (.str n) o ∧ k o := ⟨_, DGet.k (k := .inr n) h1, h⟩
theorem w_dput {td ty tv : TE} {De : Ends} (h : tv σ H fun v H1 => td σ H1 fun x H2 => ty σ H2 fun y H3 => ∃ a H4, x = .ref a ∧ DPut H3 a y v H4 ∧ De.nx σ H4) : sDPut td ty tv De σ H := h
theorem w_dputk {kvs : List (Key × V)} {n : Str} {k : Hp → Prop} (h1 : H a = some (.dK kvs)) (hl : kvs.length < sizeLine) (h : k (upd H a (.dK (putK kvs (.inr n) v)))) : ∃ b H4, V.ref a = .ref b ∧ DPut H b (.str n) v H4 ∧ k H4 := ⟨a, _, rfl, DPut.k (k := .inr n) h1 hl, h⟩
end
end TP

namespace TP
open PySem PySem.Spec PyProof.Rows L2
section
variable {σ : L2.St} {H : Hp} {Q : VK} {QO : Option Int → Hp → Prop} {tr tk : TA} {te : TE} {D : Ends} {sp : Sp} {E : XK}
theorem w_p2 {k : V → V → Prop} {a b : V} (h : k a b) : Par2 k [a, b] := ⟨a, b, rfl, h⟩
theorem w_p3 {k : V → V → V → Prop} {a b c : V} (h : k a b c) : Par3 k [a, b, c] := ⟨a, b, c, rfl, h⟩
theorem w_tpar {i j : Nat} (h : tr σ H fun vs H1 => Par2 (fun v w => D.nx ((σ.set i (some v)).set j (some w)) H1) vs) : tPar i j tr D σ H := h
theorem w_tpar3 {i j l : Nat} (h : tr σ H fun vs H1 => Par3 (fun u v w => D.nx (((σ.set i (some u)).set j (some v)).set l (some w)) H1) vs) : tPar3 i j l tr D σ H := h
theorem w_intC {i : Int} {k : Int → Prop} (h : k i) : IntC (.int i) k := ⟨i, rfl, h⟩
theorem w_tpart (h : te σ H fun x H1 => IntC x fun i => QO (some i) H1) : tPart te σ H QO := h
theorem w_kwC {n m : Nat} {g : {α : Type} → List α → List α → List α} {vs zs : List V} {k : List V → Prop} (h1 : vs.length = n) (h2 : zs.length = m) (h : k (g vs zs)) : KwC n m g vs zs k := ⟨h1, h2, h⟩
theorem w_tcallW {n m : Nat} {g : {α : Type} → List α → List α → List α} (h : tr σ H fun vs H1 => tk σ H1 fun zs H2 => KwC n m g vs zs fun as => sp as H2 Q E) : tCallW sp n m g E tr tk σ H Q := h
end
end TP

namespace TP
open PySem PySem.Spec PyProof.Rows L2
theorem acc_map {α β : Type} {acc : List β} {l : List α} {f : α → β} (hl : acc.length = l.length) (hf : ∀ (i : Nat) (y : β), acc[i]? = some y → ∃ a, l[i]? = some a ∧ y = f a) : acc = l.map f := by
  refine List.ext_getElem? fun i => ?_
  rw [List.getElem?_map]
  cases e : acc[i]? with
  | some y =>
    obtain ⟨a, h1, h2⟩ := hf i y e
    rw [h1, h2]; rfl
  | none =>
    rw [List.getElem?_eq_none (by rw [← hl]; exact List.getElem?_eq_none_iff.mp e)]; rfl
theorem all_map_id {α : Type} (f : α → Bool) (l : List α) : (l.map f).all id = l.all f := by
  rw [List.all_map]; rfl
theorem mono_gpair {K : PySem.W.Frag} {i j : Nat} : ∀ {x : V} {σ : L2.St} {H : Hp} {Q Q' : L2.St → Hp → Prop}, (∀ σ H, Q σ H → Q' σ H) → gTup K 2 (gCons (gName i) (gCons (gName j) gNil)) x σ H Q → gTup K 2 (gCons (gName i) (gCons (gName j) gNil)) x σ H Q' :=
  fun h ⟨a, xs, e, hs, hn, v, r, e1, w, r2, e2, e3, q⟩ => ⟨a, xs, e, hs, hn, v, r, e1, w, r2, e2, e3, h _ _ q⟩
theorem take_succ_snoc {α : Type} : ∀ {l : List α} {i : Nat} {x : α}, l[i]? = some x → l.take (i + 1) = l.take i ++ [x]
  | [], i, x, h => by simp at h
  | a :: l, 0, x, h => by simp at h; subst h; rfl
  | a :: l, i + 1, x, h => by
    have ih := take_succ_snoc (l := l) (i := i) (x := x) (by simpa using h)
    rw [List.take_succ_cons, ih]; rfl
theorem isi_int (d : PyData) : kitB (tyD d) "int" = some (isIntD d) := by
  cases d
  · exact (by decide +kernel : kitB "NoneType" "int" = some false)
  · exact (by decide +kernel : kitB "bool" "int" = some true)
  · exact (by decide +kernel : kitB "int" "int" = some true)
  · exact (by decide +kernel : kitB "str" "int" = some false)
  · exact (by decide +kernel : kitB "list" "int" = some false)
  · exact (by decide +kernel : kitB "tuple" "int" = some false)
  · exact (by decide +kernel : kitB "dict" "int" = some false)
theorem isi_bool (d : PyData) : kitB (tyD d) "bool" = some (isBoolD d) := by
  cases d
  · exact (by decide +kernel : kitB "NoneType" "bool" = some false)
  · exact (by decide +kernel : kitB "bool" "bool" = some true)
  · exact (by decide +kernel : kitB "int" "bool" = some false)
  · exact (by decide +kernel : kitB "str" "bool" = some false)
  · exact (by decide +kernel : kitB "list" "bool" = some false)
  · exact (by decide +kernel : kitB "tuple" "bool" = some false)
  · exact (by decide +kernel : kitB "dict" "bool" = some false)
theorem isi_str (d : PyData) : kitB (tyD d) "str" = some (isStrD d) := by
  cases d
  · exact (by decide +kernel : kitB "NoneType" "str" = some false)
  · exact (by decide +kernel : kitB "bool" "str" = some false)
  · exact (by decide +kernel : kitB "int" "str" = some false)
  · exact (by decide +kernel : kitB "str" "str" = some true)
  · exact (by decide +kernel : kitB "list" "str" = some false)
  · exact (by decide +kernel : kitB "tuple" "str" = some false)
  · exact (by decide +kernel : kitB "dict" "str" = some false)
theorem isi_tup (d : PyData) : kitB (tyD d) "tuple" = some (isTupD d) := by
  cases d
  · exact (by decide +kernel : kitB "NoneType" "tuple" = some false)
  · exact (by decide +kernel : kitB "bool" "tuple" = some false)
  · exact (by decide +kernel : kitB "int" "tuple" = some false)
  · exact (by decide +kernel : kitB "str" "tuple" = some false)
  · exact (by decide +kernel : kitB "list" "tuple" = some false)
  · exact (by decide +kernel : kitB "tuple" "tuple" = some true)
  · exact (by decide +kernel : kitB "dict" "tuple" = some false)
theorem szDs_get : ∀ {ds : List PyData} {i : Nat} {d : PyData}, szDs ds = true → ds[i]? = some d → szD d = true
  | [], i, d, _, e => by simp at e
  | a :: r, 0, d, h, e => by
    simp at e; subst e
    exact (Bool.and_eq_true_iff.mp (show (szD a && szDs r) = true from h)).1
  | a :: r, i + 1, d, h, e => szDs_get (i := i) (Bool.and_eq_true_iff.mp (show (szD a && szDs r) = true from h)).2 (by simpa using e)
theorem mem_letters (c : Nat) : decide (c ∈ letters.cps.toList) = isLet c := by
  have e : letters.cps.toList = [97, 98, 99, 100, 101, 102, 103, 104, 105, 106, 107, 108, 109, 110, 111, 112, 113, 114, 115, 116, 117, 118, 119, 120, 121, 122] := by decide +kernel
  rw [e]
  unfold isLet
  by_cases h : 97 ≤ c ∧ c ≤ 122
  · rw [decide_eq_true h.1, decide_eq_true h.2]
    refine decide_eq_true ?_
    simp only [List.mem_cons, List.not_mem_nil, or_false]
    omega
  · have : (decide (97 ≤ c) && decide (c ≤ 122)) = false := by
      rw [Bool.and_eq_false_iff, decide_eq_false_iff_not, decide_eq_false_iff_not]; omega
    rw [this]
    refine decide_eq_false ?_
    simp only [List.mem_cons, List.not_mem_nil, or_false]
    omega
theorem firstBad_some {ds : List PyData} {m : Int} {i : Nat} (hi : i < ds.length) (hb : badAt ds m i = true) (hp : ∀ j, j < i → badAt ds m j = false) : firstBad ds m = some i := by
  unfold firstBad
  rw [List.find?_range_eq_some]
  exact ⟨hb, List.mem_range.mpr hi, fun j hj => by rw [hp j hj]; rfl⟩
theorem firstBad_none {ds : List PyData} {m : Int} (hp : ∀ j, j < ds.length → badAt ds m j = false) : firstBad ds m = none := by
  unfold firstBad
  rw [List.find?_eq_none]
  intro j hj
  rw [hp j (List.mem_range.mp hj)]
  exact Bool.false_ne_true
theorem pairD_run {p : Str × Int} (h1 : isName p.1 = true) (h2 : 1 ≤ p.2) : runD (pairD p) = true := by
  show (isName p.1 && decide (1 ≤ p.2)) = true
  rw [h1, decide_eq_true h2]; rfl
theorem bag_good {ps : Bag} (h : BagOk ps) {m : Int} (hm : (ps.length : Int) ≤ m) : firstBad (ps.map pairD) m = none := by
  refine firstBad_none fun i hi => ?_
  rw [List.length_map] at hi
  have e : (ps.map pairD).getD i .none = pairD ps[i] := by simp [List.getD, hi]
  unfold badAt
  rw [e, decide_eq_false (by omega), pairD_run (h.nam _ (List.getElem_mem hi)) (h.pos _ (List.getElem_mem hi))]
  by_cases h0 : 0 < i
  · have e2 : (ps.map pairD).getD (i - 1) .none = pairD (ps[i - 1]'(by omega)) := by simp [List.getD, show i - 1 < ps.length by omega]
    rw [e2, decide_eq_true h0]
    have q := List.pairwise_iff_getElem.mp h.asc (i - 1) i (by omega) hi (by omega)
    have q2 : ltS (nmD (pairD (ps[i - 1]'(by omega)))) (nmD (pairD ps[i])) := q
    rw [decide_eq_true q2]; rfl
  · rw [decide_eq_false h0]; rfl
theorem szD_bag {ps : Bag} (h : ∀ p ∈ ps, p.1.length ≤ 100000) : szDs (ps.map pairD) = true := by
  induction ps with
  | nil => rfl
  | cons p r ih =>
    have h1 := h p List.mem_cons_self
    show (szD (pairD p) && szDs (r.map pairD)) = true
    rw [ih fun q hq => h q (List.mem_cons_of_mem _ hq)]
    simp [szD, szDs, pairD, h1]
theorem isName_len {x : Str} (h : isName x = true) : 0 < x.length ∧ x.length < 9 := by
  unfold isName at h
  have h1 := Bool.and_eq_true_iff.mp h
  have h2 := Bool.and_eq_true_iff.mp h1.2
  exact ⟨of_decide_eq_true h1.1, of_decide_eq_true h2.1⟩
theorem BagOk.sz {ps : Bag} (h : BagOk ps) : szDs (ps.map pairD) = true := szD_bag fun p hp => by have := (isName_len (h.nam p hp)).2; omega
section
variable {K : PySem.W.Frag} {H : Hp}
theorem pair_inv {v : V} {p : Str × Int} (h : Dp K H v (pairD p)) : ∃ a, v = .ref a ∧ SqT K H a [.str p.1, .int p.2] := by
  obtain ⟨a, xs, rfl, hs, hd⟩ := dp_tup_inv h
  refine ⟨a, rfl, ?_⟩
  cases hd with
  | cons h1 r =>
    cases r with
    | cons h2 r2 =>
      cases r2
      rw [dp_str_inv h1, dp_int_inv h2] at hs
      exact hs
theorem pair_mk {a : Addr} {n : Str} {c : Int} (h : SqT K H a [.str n, .int c]) : Dp K H (.ref a) (pairD (n, c)) := .tup h (.cons (.str n) (.cons (.int c) .nil))
theorem bag_inv {v : V} {ps : Bag} (h : Dp K H v (bagD ps)) : ∃ a xs, v = .ref a ∧ SqT K H a xs ∧ DpAll K H xs (ps.map pairD) ∧ xs.length = ps.length := by
  obtain ⟨a, xs, rfl, hs, hd⟩ := dp_tup_inv h
  exact ⟨a, xs, rfl, hs, hd, by rw [dps_len hd, List.length_map]⟩
theorem bag_get {xs : List V} {ps : Bag} {i : Nat} {x : V} (hd : DpAll K H xs (ps.map pairD)) (e : xs[i]? = some x) : ∃ p b, ps[i]? = some p ∧ x = .ref b ∧ SqT K H b [.str p.1, .int p.2] := by
  obtain ⟨d, h1, h2⟩ := dps_get hd e
  rw [List.getElem?_map] at h1
  cases q : ps[i]? with
  | none => rw [q] at h1; cases h1
  | some p =>
    rw [q] at h1
    have e2 : pairD p = d := Option.some.inj h1
    subst e2
    obtain ⟨b, e3, h3⟩ := pair_inv h2
    exact ⟨p, b, rfl, e3, h3⟩
end
theorem flat_bag (ps : Bag) : flatD (bagD ps) = true := by
  unfold bagD flatD
  induction ps with
  | nil => rfl
  | cons p r ih => show (flatD (pairD p) && flatDs (r.map pairD)) = true; rw [ih]; rfl
theorem kv_find (t : Bag) (n : Str) : valV (kvOf t) (Sum.inr n) = ((t.find? fun p => decide (p.1 = n)).map fun p => V.int p.2) := by
  unfold valV kvOf
  induction t with
  | nil => rfl
  | cons p r ih =>
    rw [List.map_cons, List.find?_cons, List.find?_cons]
    have e : decide ((Sum.inr p.1 : Key) = Sum.inr n) = decide (p.1 = n) := key_rr p.1 n
    dsimp only
    rw [e]
    cases decide (p.1 = n)
    · exact ih
    · rfl
theorem kv_get (t : Bag) (n : Str) : (valV (kvOf t) (Sum.inr n)).getD (.int 0) = .int (getT t n) := by
  rw [kv_find]
  unfold getT
  cases t.find? fun p => decide (p.1 = n) <;> rfl
theorem kv_put (t : Bag) (n : Str) (c : Int) : putK (kvOf t) (Sum.inr n) (.int c) = kvOf (putT t n c) := by
  have e1 : ((kvOf t).any fun kv => decide (kv.1 = Sum.inr n)) = t.any fun p => decide (p.1 = n) := by
    unfold kvOf
    rw [List.any_map]
    congr 1
    funext p
    exact key_rr p.1 n
  unfold putK putT
  rw [e1]
  split
  · unfold kvOf
    rw [List.map_map, List.map_map]
    congr 1
    funext p
    by_cases h : p.1 = n
    · simp [h]
    · simp [h, show ¬ ((Sum.inr p.1 : Key) = Sum.inr n) from fun q => h (Sum.inr.inj q)]
  · unfold kvOf
    rw [List.map_append]
    rfl
theorem kv_len (t : Bag) : (kvOf t).length = t.length := by unfold kvOf; rw [List.length_map]
theorem putT_len (t : Bag) (n : Str) (c : Int) : (putT t n c).length ≤ t.length + 1 := by
  unfold putT
  split
  · rw [List.length_map]; omega
  · simp
theorem foldl_addT_len : ∀ (ps t : Bag), (ps.foldl addT t).length ≤ t.length + ps.length
  | [], t => by simp
  | p :: r, t => by
    have h1 := foldl_addT_len r (addT t p)
    have h2 := putT_len t p.1 (getT t p.1 + p.2)
    simp only [List.foldl_cons, List.length_cons]
    unfold addT at h1 ⊢
    omega
theorem tabOf_len (ps : Bag) : (tabOf ps).length ≤ ps.length := by have := foldl_addT_len ps []; simpa [tabOf] using this
theorem tabOf_snoc (ps : Bag) (p : Str × Int) : tabOf (ps ++ [p]) = addT (tabOf ps) p := by unfold tabOf; rw [List.foldl_append]; rfl
theorem getT_put (t : Bag) (n m : Str) (c : Int) : getT (putT t n c) m = if m = n then c else getT t m := by
  have h := kv_get (putT t n c) m
  rw [← kv_put, valV_put] at h
  have h2 := kv_get t m
  by_cases e : m = n
  · subst e
    rw [if_pos rfl] at h ⊢
    exact (V.int.inj h).symm
  · rw [if_neg (fun q => e (Sum.inr.inj q))] at h
    rw [if_neg e]
    rw [h2] at h
    exact (V.int.inj h).symm
theorem getT_foldl : ∀ (ps t : Bag) (n : Str), getT (ps.foldl addT t) n = getT t n + cntC ps n
  | [], t, n => by simp [cntC]
  | p :: r, t, n => by
    rw [List.foldl_cons, getT_foldl r (addT t p) n]
    unfold addT
    rw [getT_put]
    unfold cntC
    rw [List.filter_cons]
    by_cases e : n = p.1
    · subst e
      rw [if_pos rfl, if_pos (decide_eq_true rfl), List.map_cons, List.sum_cons]
      omega
    · rw [if_neg e, if_neg (by simpa using fun q : p.1 = n => e q.symm)]
end TP

namespace TP
open PySem PySem.Spec PyProof.Rows L2
theorem str_ext {x y : Str} (h : x.cps.toList = y.cps.toList) : x = y := by
  cases x; cases y
  congr 1
  exact Array.ext' h
theorem app_list (x y : Str) : (x ++ y).cps.toList = x.cps.toList ++ y.cps.toList := by
  show (x.cps ++ y.cps).toList = _
  simp
theorem len_list (x : Str) : x.length = x.cps.toList.length := by show x.cps.size = _; simp
theorem join0_list : ∀ ys : List Str, (Str.join (Str.ofString "") ys).cps.toList = (ys.map fun y => y.cps.toList).flatten
  | [] => rfl
  | [x] => by simp [Str.join]
  | x :: y :: r => by
    have ih := join0_list (y :: r)
    show (x ++ Str.ofString "" ++ Str.join (Str.ofString "") (y :: r)).cps.toList = _
    rw [app_list, app_list, ih]
    have e : (Str.ofString "").cps.toList = [] := by decide +kernel
    rw [e]
    simp
theorem txt_join_eq (s : Str) (ys : List Str) : Txt.join s ys = Str.join s ys := TL.join_eq s ys
theorem isName_of {x : Str} (h0 : 0 < x.length) (h1 : x.length < 9) (h2 : lets x) : isName x = true := by
  unfold isName
  rw [decide_eq_true h0, decide_eq_true h1, List.all_eq_true.mpr h2]; rfl
theorem wordA_all : ∀ b, b < 15 → ((List.range 15).map (wordA b)).Nodup ∧ ∀ w ∈ (List.range 15).map (wordA b), isName w = true := by decide +kernel
theorem wordB_all : ∀ b, b < 15 → ((List.range 15).map (wordB b)).Nodup ∧ ∀ w ∈ (List.range 15).map (wordB b), isName w = true := by decide +kernel
theorem range_prefix {α : Type} {f : Nat → α} {n m : Nat} (h : n ≤ m) : (List.range n).map f = ((List.range m).map f).take n := by
  rw [← List.map_take, List.take_range, Nat.min_eq_left h]
theorem words_of {f : Nat → Str} {n : Nat} (hn : n ≤ 15) (h : ((List.range 15).map f).Nodup ∧ ∀ w ∈ (List.range 15).map f, isName w = true) : ((List.range n).map f).Nodup ∧ ∀ w ∈ (List.range n).map f, isName w = true := by
  rw [range_prefix hn]
  exact ⟨h.1.sublist (List.take_sublist _ _), fun w hw => h.2 w (List.mem_of_mem_take hw)⟩
theorem wordC_all {b : Nat} {l r : List Nat} (hb : b < 15) (hl : ∀ c ∈ l, isLet c = true) (hr : ∀ c ∈ r, isLet c = true) (hn : l.length + r.length ≤ 7) : ((List.range 15).map (wordC b l r)).Nodup ∧ ∀ w ∈ (List.range 15).map (wordC b l r), isName w = true := by
  constructor
  · unfold List.Nodup
    rw [List.pairwise_map]
    refine List.Pairwise.imp_of_mem ?_ List.nodup_range
    intro i j hi hj hne e
    apply hne
    have hi' := List.mem_range.mp hi
    have hj' := List.mem_range.mp hj
    have e2 : (l ++ (97 + (b + 5 * i) % 26) :: r) = (l ++ (97 + (b + 5 * j) % 26) :: r) := by
      have := congrArg (fun z : Str => z.cps.toList) e
      simpa [wordC] using this
    have e3 := List.append_cancel_left e2
    injection e3 with e4 _
    omega
  · intro w hw
    obtain ⟨i, _, rfl⟩ := List.mem_map.mp hw
    have e : (wordC b l r i).cps.toList = l ++ (97 + (b + 5 * i) % 26) :: r := by simp [wordC]
    refine isName_of ?_ ?_ fun c hc => ?_
    · rw [len_list, e]; simp; omega
    · rw [len_list, e]; simp; omega
    · rw [e] at hc
      rcases List.mem_append.mp hc with h | h
      · exact hl c h
      · rcases List.mem_cons.mp h with h | h
        · subst h
          unfold isLet
          rw [decide_eq_true (by omega), decide_eq_true (by omega)]; rfl
        · exact hr c h
theorem words_mk {f : Nat → Str} {n : Nat} (hn : n ≤ 15) (h : ((List.range 15).map f).Nodup ∧ ∀ w ∈ (List.range 15).map f, isName w = true) : WordsOk ((List.range n).map f) n :=
  ⟨by simp, (words_of hn h).1, (words_of hn h).2⟩
theorem at_of' {α : Type} {xs : List α} {z : Int} {j : Nat} {v : α} (e : z = (j : Int)) (h : xs[j]? = some v) : atI xs z = some v := by rw [e]; exact atI_nat h
theorem letters_at {i : Int} (h0 : 0 ≤ i) (h1 : i < 26) : atI letters.cps.toList i = some (97 + i.toNat) := by
  have all : ∀ j : Nat, j < 26 → letters.cps.toList[j]? = some (97 + j) := by decide +kernel
  exact at_of' (j := i.toNat) (by omega) (all i.toNat (by omega))
theorem tri : ∀ a b : List Nat, a < b ∨ a = b ∨ b < a
  | [], [] => .inr (.inl rfl)
  | [], _ :: _ => .inl (List.nil_lt_cons _ _)
  | _ :: _, [] => .inr (.inr (List.nil_lt_cons _ _))
  | a :: r, b :: t => by
    rcases Nat.lt_trichotomy a b with h | h | h
    · exact .inl (List.cons_lt_cons_iff.mpr (.inl h))
    · subst h
      rcases tri r t with h | h | h
      · exact .inl (List.cons_lt_cons_iff.mpr (.inr ⟨rfl, h⟩))
      · exact .inr (.inl (by rw [h]))
      · exact .inr (.inr (List.cons_lt_cons_iff.mpr (.inr ⟨rfl, h⟩)))
    · exact .inr (.inr (List.cons_lt_cons_iff.mpr (.inl h)))
theorem ltS_trans {a b c : Str} (h : ltS a b) (h2 : ltS b c) : ltS a c := List.lt_trans h h2
theorem ltS_irrefl (a : Str) : ¬ ltS a a := List.lt_irrefl _
theorem ltS_tri (a b : Str) : ltS a b ∨ a = b ∨ ltS b a := by
  rcases tri a.cps.toList b.cps.toList with h | h | h
  · exact .inl h
  · exact .inr (.inl (str_ext h))
  · exact .inr (.inr h)
theorem ltS_ne {a b : Str} (h : ltS a b) : a ≠ b := fun e => by subst e; exact ltS_irrefl _ h
theorem ltS_asymm {a b : Str} (h : ltS a b) : ¬ ltS b a := fun h2 => ltS_irrefl _ (ltS_trans h h2)
theorem rising_asc : ∀ (l : List Str) (p : Str), risingS p l = true → (p :: l).Nodup → (p :: l).Pairwise ltS
  | [], p, _, _ => List.pairwise_singleton _ _
  | x :: r, p, h, nd => by
    have h' := Bool.and_eq_true_iff.mp (show (!ltCps x.cps.toList p.cps.toList && risingS x r) = true from h)
    have nd' := List.nodup_cons.mp nd
    have ih := rising_asc r x h'.2 nd'.2
    have nlt : ¬ ltS x p := fun q => by
      have e : ltCps x.cps.toList p.cps.toList = true := by rw [ltCps_eq]; exact decide_eq_true q
      rw [e] at h'
      exact Bool.false_ne_true h'.1
    have px : ltS p x := by
      rcases ltS_tri p x with q | q | q
      · exact q
      · exact absurd (by rw [q]; exact List.mem_cons_self) nd'.1
      · exact absurd q nlt
    rw [List.pairwise_cons]
    refine ⟨fun z hz => ?_, ih⟩
    rcases List.mem_cons.mp hz with e | hz
    · rw [e]; exact px
    · exact ltS_trans px ((List.pairwise_cons.mp ih).1 z hz)
theorem sorted_asc : ∀ {ys : List Str}, sortedS ys = true → ys.Nodup → ys.Pairwise ltS
  | [], _, _ => .nil
  | x :: r, h, nd => rising_asc r x h nd
end TP

namespace TP
open PySem PySem.Spec PyProof.Rows L2
section
variable {X : Cx} (K : PySem.W.Frag)
theorem k_ixL (h : X.K = K := by rfl) : IxR X (rIxL K) := by subst h; exact ix_list
theorem k_ixT (h : X.K = K := by rfl) : IxR X (rIxT K) := by subst h; exact ix_tup
theorem k_slL (h : X.K = K := by rfl) : SlR X (rSlL K) := by subst h; exact sl_list
theorem k_notInSeq (h : X.K = K := by rfl) : OpR X (compareOp .NotIn) (rIn K true) := by subst h; exact op_notIn_seq
theorem k_len (h : X.K = K := by rfl) : CallR X (.builtin "len") (rLenV K) := by subst h; exact c_len
theorem k_tuple (h : X.K = K := by rfl) : CallR X (.type "tuple") (rTupS K) := by subst h; exact c_tuple
theorem k_sum (hc : X.calm = true) (h : X.K = K := by rfl) : CallR X (.builtin "sum") (rSum K) := by subst h; exact cr_sum hc
theorem k_all (hc : X.calm = true) (h : X.K = K := by rfl) : CallR X (.builtin "all") (rAll K) := by subst h; exact cr_all hc
theorem k_sortedI (h : X.K = K := by rfl) : CallR X (.builtin "sorted") (rSorted K) := by subst h; exact cr_sorted
theorem k_isi (h : X.K = K := by rfl) : CallR X (.builtin "isinstance") (rIsi K) := by subst h; exact call_isi
variable {o e a b : Expr} {to te ta tb : TE} {apos cpos pos p tpos : Pos} {es : List Expr} {t : TA} {tg : Expr} {rest : List Expr}
theorem k_join (ho : PE X o to) (he : PE X e te) (h : X.K = K := by rfl) (hs : starEach [e] X.env = [(false, eval e X.env)] := by rfl) (hbase : attributeBase o "join" X.env (eval o X.env) = eval o X.env := by rfl) (hline : (apos.endLine == pos.line) = true := by rfl) :
    PE X (.Call (.Attribute o "join" apos) [e] [] pos) (tM1 (rJoin K) to te) := by subst h; exact pe_join ho he hs hbase hline
theorem k_bm {T id : String} {name : Str} {r : V → List V → Hp → VK → Prop} (pa : PlainAttrs T) (slot : Slot T name id) (hty : typeOf (.builtin id) = pure (.type "method_descriptor")) (hm : MtR X id r) (ho : PE X o to) (ha : PA X (e :: es) t) (h : X.K = K := by rfl)
    (hbase : attributeBase o name X.env (eval o X.env) = eval o X.env := by rfl)
    (hfew : ((backTo cpos (starEach (e :: es) X.env)).all (fun x => !x.1) && (backToKw cpos (keywordEach [] X.env)).all (fun x => x.1.isSome) && decide ((e :: es).length + ([] : List Keyword).length + (if ([] : List Keyword).isEmpty then 0 else 1) < 30)) = true := by rfl)
    (hline : (apos.endLine == cpos.line) = true := by rfl) (hs : starEach (e :: es) X.env = (false, eval e X.env) :: starEach es X.env := by rfl) (hplain : (backTo cpos (starEach es X.env)).any (·.1) = false := by rfl) :
    PE X (.Call (.Attribute o name apos) (e :: es) [] cpos) (tBM K T r to t) := by subst h; exact pe_bm pa slot hty hm ho ha hbase hfew hline hs hplain
theorem k_fld {f : Str} (he : PE X e ta) (hb : attributeBase e f X.env (eval e X.env) = eval e X.env) (h : X.K = K := by rfl) : PE X (.Attribute e f pos) (tFld K ta f) := by subst h; exact pe_fld he hb
theorem k_gtup {k n : Nat} {t : TGs} (hc : X.calm = true) (hg : PGs X es t) (h : X.K = K := by rfl) (hn : (assignEach es X.env).length = n := by rfl) (hst : (assignEach es X.env).findIdx? (·.1) = none := by rfl) : PG X (.Tuple es k pos) (gTup K n t) := by subst h; exact pg_tup hc hg hn hst
theorem k_iList (hl : PE X e te) (h : X.K = K := by rfl) : PI X tg e (iList K te) := by subst h; exact pi_list hl
theorem k_iTup (hl : PE X e te) (h : X.K = K := by rfl) : PI X tg e (iTup K te) := by subst h; exact pi_tup hl
theorem k_iEnumT {elts : List Expr} {kk : Nat} (hg : Gl X "enumerate") (hm : X.mg "enumerate" = none) (ha : PA X [e] t) (h : X.K = K := by rfl) (hs : starEach [e] X.env = [(false, eval e X.env)] := by rfl) :
    PI X (.Tuple elts kk tpos) (.Call (.Name "enumerate" p) [e] [] pos) (iEnumT K t) := by subst h; exact pi_enumT hg hm ha hs
end
section
variable {J : It} {n : Nat} {G : Hp → Prop} {Y : Nat → Hp → V → Hp → Prop} {g : TG} {tt : TT} {te : TE} {vs : List Nat} {σ : L2.St} {H1 : Hp} {D : Addr} {Q : VK} {α : Type}
theorem lc_fm (w : Walk J n G Y) (l : List α) (f : α → Option V) (hl : l.length = n) (hn : n ≤ 100000) (hD : H1 D = none) (hG : ∀ H, Same H1 H → G H)
    (hs : ∀ i x a H H', l[i]? = some a → Same H1 H → Y i H x H' → ∀ Qy : Option V → Hp → Prop, (∀ H4, Same H H4 → Qy (f a) H4) → g x (wipe σ vs) H' fun σ2 H2 => wipe σ2 vs = wipe σ vs ∧ tt σ2 H2 fun b H3 => if b = true then te σ2 H3 (fun y H4 => Qy (some y) H4) else Qy none H3)
    (hd : ∀ H, Same H1 H → H1 D = none → H D = some (.lst (l.filterMap f)) → Q (.ref D) H) : LcOk J g tt te vs σ H1 D Q := by
  let Acc : Nat → List V → Hp → Prop := fun i acc _ => acc = (l.take i).filterMap f
  refine lc_go w Acc hD hG (by show ([] : List V) = _; simp) (fun i x H H' acc hi s e l0 a hy => ?_) fun acc H s e _ a => ?_
  · have ha : l[i]? = some l[i] := List.getElem?_eq_getElem (by omega)
    have step : (l.take (i + 1)).filterMap f = (l.take i).filterMap f ++ (match f l[i] with | some y => [y] | none => []) := by
      rw [take_succ_snoc ha, List.filterMap_append]
      congr 1
      cases z : f l[i] <;> simp [z]
    have ea : acc = (l.take i).filterMap f := a
    refine hs i x l[i] H H' ha s hy (fun o H4 => match o with | some y => LcY H1 D Acc i y H4 | none => LcI H1 D Acc (i + 1) H4) fun H4 s4 => ?_
    cases z : f l[i] with
    | some y =>
      refine lc_y (Acc := Acc) hD (s.trans s4) (s4 _ _ e) l0 (by omega) ?_
      show acc ++ [y] = _
      rw [step, z, ea]
    | none =>
      refine lc_skip (Acc := Acc) (s.trans s4) (s4 _ _ e) l0 ?_
      show acc = _
      rw [step, z, ea]; simp
  · have ea : acc = (l.take n).filterMap f := a
    rw [List.take_of_length_le (by omega)] at ea
    rw [ea] at e
    exact hd H s hD e
end
section
variable {J : It} {n : Nat} {G : Hp → Prop} {Y : Nat → Hp → V → Hp → Prop} {g : TG} {te : TE} {vs : List Nat} {σ : L2.St} {H1 : Hp} {D : Addr} {Q : VK} {K : PySem.W.Frag}
theorem flatDs_snoc : ∀ {ds : List PyData} {d : PyData}, flatDs ds = true → flatD d = true → flatDs (ds ++ [d]) = true
  | [], d, _, h => by show (flatD d && true) = true; rw [h]; rfl
  | a :: r, d, h, h2 => by
    have h' := Bool.and_eq_true_iff.mp (show (flatD a && flatDs r) = true from h)
    show (flatD a && flatDs (r ++ [d])) = true
    rw [h'.1, flatDs_snoc h'.2 h2]; rfl
theorem lc_dat (K : PySem.W.Frag) (w : Walk J n G Y) (hn : n ≤ 100000) (R : Nat → PyData → Prop) (hD : H1 D = none) (hG : ∀ H, Same H1 H → G H)
    (hs : ∀ i x H H', i < n → Same H1 H → Y i H x H' → ∀ Qy : VK, (∀ y d H4, Same H H4 → Dp K H4 y d → flatD d = true → R i d → Qy y H4) → g x (wipe σ vs) H' fun σ2 H2 => wipe σ2 vs = wipe σ vs ∧ te σ2 H2 Qy)
    (hd : ∀ acc ds H, Same H1 H → H1 D = none → H D = some (.lst acc) → DpAll K H acc ds → flatDs ds = true → ds.length = n → (∀ i d, ds[i]? = some d → R i d) → Q (.ref D) H)
    (mono : ∀ {x σ H} {Q Q' : L2.St → Hp → Prop}, (∀ σ H, Q σ H → Q' σ H) → g x σ H Q → g x σ H Q') : LcOk J g tYes te vs σ H1 D Q := by
  let Acc : Nat → List V → Hp → Prop := fun i acc H => ∃ ds, DpAll K H acc ds ∧ flatDs ds = true ∧ ds.length = i ∧ ∀ (j : Nat) (d : PyData), ds[j]? = some d → R j d
  refine lc_go w Acc hD hG ⟨[], .nil, rfl, rfl, fun j d e => by simp at e⟩ (fun i x H H' acc hi s e l a hy => ?_) fun acc H s e _ ⟨ds, h1, h2, h3, h4⟩ => hd acc ds H s hD e h1 h2 h3 h4
  obtain ⟨ds, h1, h2, h3, h4⟩ := a
  refine mono (fun σ2 H2 q => ⟨q.1, w_yes (w_iteT q.2)⟩) (hs i x H H' hi s hy (fun y H4 => LcY H1 D Acc i y H4) fun y d H4 s4 dy fl ry => ?_)
  have e4 := s4 _ _ e
  refine lc_y (Acc := Acc) hD (s.trans s4) e4 l (by omega) ⟨ds ++ [d], ?_, flatDs_snoc h2 fl, by simp [h3], fun j z ej => ?_⟩
  · have st : SameT H4 (upd H4 D (.lst (acc ++ [y]))) := SameT.lst e4
    exact dps_snoc (dps_flat st (dps_same s4 h1) h2) (dp_flat st dy fl)
  · by_cases q : j < ds.length
    · rw [List.getElem?_append_left q] at ej; exact h4 j z ej
    · rw [List.getElem?_append_right (Nat.le_of_not_lt q)] at ej
      have q2 : j = ds.length := by
        obtain ⟨h1, _⟩ := List.getElem?_eq_some_iff.mp ej
        simp at h1; omega
      subst q2
      simp at ej
      subst ej
      rw [h3]; exact ry
end
theorem log2_le (i : Int) (h0 : 0 ≤ i) (h1 : i ≤ 10 ^ 100) : i.natAbs.log2 < 1920 := by
  refine Nat.lt_of_lt_of_le (PySem.Flt.log2_lt_of (by decide : 0 < 400) ?_) (by decide)
  have h2 : i.natAbs ≤ 10 ^ 100 := by omega
  exact Nat.lt_of_le_of_lt h2 (by decide)
theorem ds_eq {ds : List PyData} {α : Type} {l : List α} {f : α → PyData} (hl : ds.length = l.length) (h : ∀ (i : Nat) (d : PyData), ds[i]? = some d → ∃ a, l[i]? = some a ∧ d = f a) : ds = l.map f := acc_map hl h
theorem Has.fixed {P : Program} {w : World} {K : PySem.W.Frag} {mg : Str → Option Value} {base : Heap} {CX : CXT} {k : Nat} {x : Str} {st : Stmt} {ps : List Str} {sp : Sp} (h : Has P w K mg base CX k x st ps sp) {fd : FuncData}
    (F0 : FunD K x x (defArgs st) (defBody st) (defScope st) [] [] (He.ga K x) fd) : FnG P w K mg base CX k (He.ga K x) fd ps sp := by
  obtain ⟨fd', F1, G⟩ := h.ex
  have e : fd' = fd := by
    obtain ⟨oc, od, dV, kV, doc, pm, an, cdv, ct, osl, e1, l1, _⟩ := F1.ex
    obtain ⟨oc2, od2, dV2, kV2, doc2, pm2, an2, cdv2, ct2, osl2, e2, l2, _⟩ := F0.ex
    rw [l1] at l2
    injection l2 with l3
    injection l3 with _ _ l4 _
    injection l4
  rw [← e]; exact G
end TP

namespace TP
open PySem PySem.Spec PyProof.Rows L2
theorem vals_pick {xs : List V} {us : List Value} (r : Vals xs us) : ∀ js : List Nat, Vals (js.filterMap fun k => xs[k]?) (js.filterMap fun k => us[k]?)
  | [] => .nil
  | j :: js => by
    rw [List.filterMap_cons, List.filterMap_cons]
    cases e : xs[j]? with
    | none =>
      rw [r.none_of e]
      exact vals_pick r js
    | some x =>
      obtain ⟨u, e2, ru⟩ := r.get e
      rw [e2]
      exact .cons ru (vals_pick r js)
section
variable {prog : Program} {w : World} {A : Around} {E : Value → Shared → Prop} {s : Shared}
end
section
variable {X : Cx} {e : Expr} {te : TE} {k : Nat} {p1 p2 p3 pos : Pos} (K : PySem.W.Frag)
end
section
variable {J : It} {n : Nat} {G : Hp → Prop} {Y : Nat → Hp → V → Hp → Prop} {g : TG} {tt : TT} {te : TE} {vs : List Nat} {σ : L2.St} {H1 : Hp} {D : Addr} {Q : VK} {α : Type}
theorem lc_fmd (K : PySem.W.Frag) (w : Walk J n G Y) (l : List α) (f : α → Option PyData) (hl : l.length = n) (hn : n ≤ 100000) (hf : ∀ a d, f a = some d → flatD d = true) (hD : H1 D = none) (hG : ∀ H, Same H1 H → G H)
    (hs : ∀ i x a H H', l[i]? = some a → Same H1 H → Y i H x H' → ∀ (Qy : VK) (Qn : Hp → Prop), (∀ y d H4, Same H H4 → f a = some d → Dp K H4 y d → Qy y H4) → (∀ H4, Same H H4 → f a = none → Qn H4) →
      g x (wipe σ vs) H' fun σ2 H2 => wipe σ2 vs = wipe σ vs ∧ tt σ2 H2 fun b H3 => if b = true then te σ2 H3 (fun y H4 => Qy y H4) else Qn H3)
    (hd : ∀ acc H, Same H1 H → H1 D = none → H D = some (.lst acc) → DpAll K H acc (l.filterMap f) → Q (.ref D) H) : LcOk J g tt te vs σ H1 D Q := by
  have flat : ∀ l' : List α, flatDs (l'.filterMap f) = true := by
    intro l'
    induction l' with
    | nil => rfl
    | cons a r ih =>
      rw [List.filterMap_cons]
      cases e : f a with
      | none => exact ih
      | some d => show (flatD d && flatDs (r.filterMap f)) = true; rw [hf a d e, ih]; rfl
  let Acc : Nat → List V → Hp → Prop := fun i acc H => DpAll K H acc ((l.take i).filterMap f)
  refine lc_go w Acc hD hG (by show DpAll K _ [] _; simp; exact .nil) (fun i x H H' acc hi s e l0 a hy => ?_) fun acc H s e _ a => ?_
  · have ha : l[i]? = some l[i] := List.getElem?_eq_getElem (by omega)
    have aa : DpAll K H acc ((l.take i).filterMap f) := a
    refine hs i x l[i] H H' ha s hy (fun y H4 => LcY H1 D Acc i y H4) (fun H4 => LcI H1 D Acc (i + 1) H4) (fun y d H4 s4 ed dy => ?_) fun H4 s4 ed => ?_
    · have e4 := s4 _ _ e
      refine lc_y (Acc := Acc) hD (s.trans s4) e4 l0 (by omega) ?_
      have st : SameT H4 (upd H4 D (.lst (acc ++ [y]))) := SameT.lst e4
      show DpAll K _ (acc ++ [y]) ((l.take (i + 1)).filterMap f)
      rw [take_succ_snoc ha, List.filterMap_append, List.filterMap_cons, ed]
      exact dps_snoc (dps_flat st (dps_same s4 aa) (flat _)) (dp_flat st dy (hf _ _ ed))
    · refine lc_skip (Acc := Acc) (s.trans s4) (s4 _ _ e) l0 ?_
      show DpAll K _ acc ((l.take (i + 1)).filterMap f)
      rw [take_succ_snoc ha, List.filterMap_append, List.filterMap_cons, ed]
      simp
      exact dps_same s4 aa
  · have aa : DpAll K H acc ((l.take n).filterMap f) := a
    rw [List.take_of_length_le (by omega)] at aa
    exact hd acc H s hD e aa
end
theorem getT_cons (p : Str × Int) (r : Bag) (n : Str) : getT (p :: r) n = if p.1 = n then p.2 else getT r n := by
  unfold getT
  rw [List.find?_cons]
  by_cases e : p.1 = n
  · rw [if_pos e, decide_eq_true e]; rfl
  · rw [if_neg e, decide_eq_false e]
theorem getT_out {t : Bag} {n : Str} (h : ∀ p ∈ t, p.1 ≠ n) : getT t n = 0 := by
  unfold getT
  rw [List.find?_eq_none.mpr fun p hp => by simpa using h p hp]; rfl
theorem getT_mem : ∀ {t : Bag} {p : Str × Int}, (t.map (·.1)).Nodup → p ∈ t → getT t p.1 = p.2
  | [], p, _, h => by cases h
  | q :: r, p, nd, h => by
    rw [getT_cons]
    have nd' := List.nodup_cons.mp (show (q.1 :: r.map (·.1)).Nodup from nd)
    rcases List.mem_cons.mp h with e | h
    · rw [e, if_pos rfl]
    · rw [if_neg (fun e : q.1 = p.1 => nd'.1 (by rw [e]; exact List.mem_map.mpr ⟨p, h, rfl⟩))]
      exact getT_mem nd'.2 h
theorem asc_nodup {ps : Bag} (h : ps.Pairwise fun a b => ltS a.1 b.1) : (ps.map (·.1)).Nodup := by
  unfold List.Nodup
  rw [List.pairwise_map]
  exact h.imp fun h => ltS_ne h
theorem namesOf_take {ns : List Str} {i : Nat} : (namesOf (ns.take i)).length ≤ (namesOf ns).length := nodup_sub_len (namesOf_nodup _) fun x hx => namesOf_mem.mpr (List.mem_of_mem_take (namesOf_mem.mp hx))
theorem OrdOk.sz {ps : Bag} (h : OrdOk ps) : szDs (ps.map pairD) = true := szD_bag fun p hp => by have := (isName_len (h.nam p hp)).2; omega
theorem tab_keys : ∀ (ps t : Bag), (ps.foldl addT t).map (·.1) = (ps.map (·.1)).foldl addN (t.map (·.1))
  | [], t => rfl
  | p :: r, t => by
    rw [List.foldl_cons, tab_keys r, List.map_cons, List.foldl_cons]
    congr 1
    unfold addT putT addN
    have e : (t.any fun q => decide (q.1 = p.1)) = decide (p.1 ∈ t.map (·.1)) := by
      by_cases h : p.1 ∈ t.map (·.1)
      · rw [decide_eq_true h, List.any_eq_true]
        obtain ⟨q, hq, e⟩ := List.mem_map.mp h
        exact ⟨q, hq, decide_eq_true e⟩
      · rw [decide_eq_false h, Bool.eq_false_iff]
        intro z
        obtain ⟨q, hq, e⟩ := List.any_eq_true.mp z
        exact h (List.mem_map.mpr ⟨q, hq, of_decide_eq_true e⟩)
    rw [e]
    by_cases h : p.1 ∈ t.map (·.1)
    · rw [if_pos (decide_eq_true h), if_pos h, List.map_map]
      refine List.map_congr_left fun q _ => ?_
      by_cases z : q.1 = p.1
      · simp [z]
      · simp [z]
    · rw [if_neg (by rw [decide_eq_false h]; exact Bool.false_ne_true), if_neg h, List.map_append]; rfl
end TP

namespace TP
open PySem PySem.Spec PyProof.Rows L2
theorem c_sortedDk {X : Cx} (hc : X.calm = true) : CallR X (.builtin "sorted") rSortedDk := call_sortedD hc
section
variable {K : PySem.W.Frag} {σ : L2.St} {H : Hp} {Q : VK} {te td ty : TE} {QB : Bool → Hp → Prop} {a : Addr} {xs : List V} {v w : V}
theorem w_sortedDk {t : Bag} (h1 : H a = some (.dK (kvOf t))) (hl : t.length < 64) (h : ∀ (ys : List Str) (p : Addr), ys.Perm (t.map (·.1)) → sortedS ys = true → H p = none → Q (.ref p) (upd H p (.lst (ys.map V.str)))) : rSortedDk [.ref a] H Q :=
  ⟨a, kvOf t, t.map (·.1), rfl, .inl h1, by unfold kvOf; rw [List.map_map, List.map_map]; rfl, by rw [List.length_map]; exact hl, h⟩
theorem w_tru (h : te σ H fun x H1 => TruC K x H1 fun b => QB b H1) : tTru K te σ H QB := h
theorem w_truI {k : Bool → Prop} {i : Int} (h : k (i != 0)) : TruC K (.int i) H k := ⟨_, rfl, h⟩
theorem w_truB {k : Bool → Prop} {b : Bool} (h : k b) : TruC K (.bl b) H k := ⟨_, rfl, h⟩
theorem w_dget (h : td σ H fun x H1 => ty σ H1 fun y H2 => DGetC x y H2 Q) : tDGet td ty σ H Q := h
theorem w_dgetc {kvs : List (Key × V)} {n : Str} (h1 : H a = some (.dK kvs)) (e : valV kvs (.inr n) = some v) (h : Q v H) : DGetC (.ref a) (.str n) H Q := ⟨a, v, rfl, by have := DGet.k (k := .inr n) h1; rw [e] at this; exact this, h⟩
end
theorem AllSame.flat {K : PySem.W.Frag} {H : Hp} : ∀ {xs : List V}, xs.all flatB = true → AllSame K H xs xs
  | [], _ => .nil
  | x :: r, h => by
    have h' := Bool.and_eq_true_iff.mp (show (flatB x && r.all flatB) = true from h)
    exact .cons (.inl ⟨rfl, h'.1⟩) (AllSame.flat h'.2)
section
variable {X : Cx} {pins : List (Addr × Obj)} {σ : L2.St} {H : Hp} {s : Shared}
end
section
variable {K : PySem.W.Frag} {H : Hp} {Q : VK} {a b : Addr} {xs ys : List V}
end
theorem canF_mem {f : Str → Int} {ys : List Str} {p : Str × Int} (h : p ∈ canF f ys) : p.1 ∈ ys ∧ p.2 = f p.1 ∧ 0 < p.2 := by
  unfold canF at h
  obtain ⟨y, hy, e⟩ := List.mem_filterMap.mp h
  by_cases z : 0 < f y
  · rw [if_pos z] at e
    cases e
    exact ⟨hy, rfl, z⟩
  · rw [if_neg z] at e; cases e
theorem canF_cons (f : Str → Int) (y : Str) (r : List Str) : canF f (y :: r) = (if 0 < f y then [(y, f y)] else []) ++ canF f r := by
  unfold canF
  rw [List.filterMap_cons]
  by_cases z : 0 < f y
  · rw [if_pos z, if_pos z]; rfl
  · rw [if_neg z, if_neg z]; rfl
theorem canF_get (f : Str → Int) : ∀ (ys : List Str) (n : Str), getT (canF f ys) n = if n ∈ ys ∧ 0 < f n then f n else 0
  | [], n => by simp [canF, getT]
  | y :: r, n => by
    rw [canF_cons]
    by_cases z : 0 < f y
    · rw [if_pos z]
      show getT ((y, f y) :: canF f r) n = _
      rw [getT_cons, canF_get f r]
      by_cases e : y = n
      · subst e
        rw [if_pos rfl, if_pos ⟨List.mem_cons_self, z⟩]
      · rw [if_neg (show ¬ (y, f y).1 = n from e)]
        have : (n ∈ y :: r ∧ 0 < f n) ↔ (n ∈ r ∧ 0 < f n) := by
          rw [List.mem_cons]
          exact ⟨fun ⟨h, h2⟩ => ⟨h.elim (fun q => absurd q.symm e) id, h2⟩, fun ⟨h, h2⟩ => ⟨.inr h, h2⟩⟩
        simp only [this]
    · rw [if_neg z]
      show getT (canF f r) n = _
      rw [canF_get f r]
      have : (n ∈ y :: r ∧ 0 < f n) ↔ (n ∈ r ∧ 0 < f n) := by
        rw [List.mem_cons]
        exact ⟨fun ⟨h, h2⟩ => ⟨h.elim (fun q => absurd (q ▸ h2) z) id, h2⟩, fun ⟨h, h2⟩ => ⟨.inr h, h2⟩⟩
      simp only [this]
theorem canF_asc {f : Str → Int} : ∀ {ys : List Str}, ys.Pairwise ltS → (canF f ys).Pairwise fun a b => ltS a.1 b.1
  | [], _ => .nil
  | y :: r, h => by
    have h' := List.pairwise_cons.mp h
    rw [canF_cons]
    have ih := canF_asc (f := f) h'.2
    split
    · exact List.pairwise_cons.mpr ⟨fun p hp => h'.1 _ (canF_mem hp).1, ih⟩
    · exact ih
theorem canF_can {t : Bag} {ys : List Str} (hp : ys.Perm (t.map (·.1))) (asc : ys.Pairwise ltS) : IsCan (fun n => posI (getT t n)) (canF (getT t) ys) := by
  refine ⟨canF_asc asc, fun p hp => (canF_mem hp).2.2, fun n => ?_⟩
  rw [canF_get]
  show _ = if 0 < getT t n then getT t n else 0
  by_cases z : 0 < getT t n
  · have : n ∈ ys := hp.mem_iff.mpr (Classical.byContradiction fun q => by
      rw [getT_out (fun p hp e => q (List.mem_map.mpr ⟨p, hp, e⟩))] at z
      omega)
    rw [if_pos ⟨this, z⟩, if_pos z]
  · rw [if_neg (fun q => z q.2), if_neg z]
theorem canF_len (f : Str → Int) (ys : List Str) : (canF f ys).length ≤ ys.length := List.length_filterMap_le _ _
theorem kv_some {t : Bag} {n : Str} (h : n ∈ t.map (·.1)) : valV (kvOf t) (Sum.inr n) = some (.int (getT t n)) := by
  rw [kv_find]
  unfold getT
  cases e : t.find? fun p => decide (p.1 = n) with
  | some p => rfl
  | none =>
    obtain ⟨p, hp, e2⟩ := List.mem_map.mp h
    have := List.find?_eq_none.mp e p hp
    simp [e2] at this
theorem sumC_app : ∀ (a b : Bag), sumC (a ++ b) = sumC a + sumC b
  | [], b => by simp [sumC]
  | p :: r, b => by rw [List.cons_append, sumC_cons, sumC_cons, sumC_app r b]; omega
theorem ixN_last {α : Type} (zr : List α) (c : α) : ixN (zr ++ [c]).length (-1) = some zr.length := by
  unfold ixN
  rw [if_neg (by decide), if_pos (by simp; omega)]
  congr 1
  simp
  omega
theorem atI_last {α : Type} (zr : List α) (c : α) : atI (zr ++ [c]) (-1) = some c := by
  unfold atI
  rw [ixN_last]
  simp
theorem w_stepT2 {K : PySem.W.Frag} {c : Int} {σ : L2.St} {H : Hp} {Q : VK} {te : TE} (h : te σ H fun x H1 => StepC K c x H1 Q) : tStepT K c te σ H Q := h
theorem cutV_take {xs : List V} {k : Nat} : cutV xs none (some (k : Int)) = xs.take k := by
  unfold cutV
  rw [HT.sIx_none, HT.sIx_nat]
  simp
end TP

namespace TP
open PySem PySem.Spec PyProof.Rows L2
theorem vals_app {a b : List V} {c d : List Value} (h1 : Vals a c) (h2 : Vals b d) : Vals (a ++ b) (c ++ d) := h1.append h2
theorem kbn {K : PySem.W.Frag} {x q : Str} {st : Stmt} {dvs : List V} {f : Addr} {fd : FuncData} {ps ks : List Str} {n : Nat} {js : List Nat} (F : FunD K x q (defArgs st) (defBody st) (defScope st) dvs [] f fd) (h : BindJ x q st ps dvs.length n ks js) :
    ∃ g, KBn K fd ps n ks g (fun vs zs => pick js (vs ++ zs ++ dvs)) := by
  rcases h with ⟨e, h⟩ | ⟨e, h⟩
  · have ed : dvs = [] := List.eq_nil_of_length_eq_zero e
    subst ed
    obtain ⟨kV, doc, pm, an, cdv, ct, rfl⟩ := FunD.noDef F
    refine ⟨fun us ws => pick js (us ++ ws), ⟨fun s us ws X l1 l2 => .of_eq (h kV doc pm an cdv ct us ws l1 l2), fun r1 r2 => ?_⟩⟩
    rw [List.append_nil]
    exact vals_pick (vals_app r1 r2) js
  · have hd : dvs ≠ [] := fun z => e (by rw [z]; rfl)
    obtain ⟨its, B⟩ := FunD.kbindsD F n ks (fun us its ws => pick js (us ++ ws ++ its)) hd (fun r1 r2 r3 => vals_pick (vals_app (vals_app r1 r3) r2) js) h
    exact ⟨_, B⟩
section
variable {P : Program} {w : World} {K : PySem.W.Frag} {mg : Str → Option Value} {base : Heap} {CX : CXT} {k j : Nat} {C m q : Str} {st : Stmt} {dvs : List V} {N ps : List Str} {sp sp' : Sp}
theorem DfdM.has (D : DfdM K C m q st dvs) (S : FnScope N ps (defScope st)) (len : ∀ vs H Q E, sp vs H Q E → vs.length = ps.length)
    (hbody : ∀ (cdv : Value) (A : Around) (outer : List Env) (s : Shared) (H : Hp) (vs : List V) (Q : VK) (E : XK), Room k (A.deeper (envOfC q (defScope st) s.heap.objs.size (He.ma K (He.ga K C) m) cdv)) → (A.deeper (envOfC q (defScope st) s.heap.objs.size (He.ma K (He.ga K C) m) cdv)).guards = some [] → sp vs H Q E →
      ∃ t, PSs (cxOf CX P w K mg base N q (defScope st) (He.ma K (He.ga K C) m) cdv A outer s H E) (defBody st) t ∧ t { nx := fun _ H' => Q .non H', rt := Q } (start N vs) H) :
    HasM P w K mg base CX (k + 1) C m q st dvs ps sp := by
  obtain ⟨fd, F⟩ := D.ex
  exact ⟨⟨fd, F, fnG_of F S len hbody⟩, D.mt⟩
end
theorem clsB_ok {K : PySem.W.Frag} {h : Heap} {mg : Str → Option Value} {C : Str} {fs : List Str} (X : K.In h) (G : h.Ns mainGlobals mg) (c : clsB K C fs = true) : ClsF K mg C fs := by
  obtain ⟨c0, c⟩ := He.ba c
  obtain ⟨c1, c⟩ := He.ba c
  obtain ⟨c2, c⟩ := He.ba c
  obtain ⟨c3, c⟩ := He.ba c
  obtain ⟨c4, c⟩ := He.ba c
  obtain ⟨c5, c⟩ := He.ba c
  obtain ⟨c6, c⟩ := He.ba c
  obtain ⟨c7, c⟩ := He.ba c
  obtain ⟨c8, c⟩ := He.ba c
  obtain ⟨c9, c⟩ := He.ba c
  obtain ⟨c10, c11⟩ := He.ba c
  exact ⟨He.glo_ok X G c0, He.cls_ok c1, fun f hf => He.noat_ok (List.all_eq_true.mp c2 f hf), He.mkr_ok c3, He.eqO_ok c4, He.eqO_ok c5, of_decide_eq_true c6, of_decide_eq_true c7, of_decide_eq_true c8,
    fun T hT => of_decide_eq_true (List.all_eq_true.mp c9 T hT), fun T hT => of_decide_eq_true (List.all_eq_true.mp c10 T hT), He.eqO_ok c11⟩
theorem etupB_ok {K : PySem.W.Frag} {a : Addr} (h : etupB K a = true) (H : Hp) : SqT K H a [] := by
  unfold etupB at h
  cases q : K.lookup a with
  | none => rw [q] at h; cases h
  | some o =>
    obtain ⟨oc, od, dt, osl⟩ := o
    rw [q] at h
    cases oc with
    | type c =>
      cases dt with
      | seq its n =>
        obtain ⟨h1, h2⟩ := He.ba (show (decide (c = "tuple") && decide (its = #[])) = true from h)
        have e := of_decide_eq_true h2
        subst e
        exact .inr ⟨_, #[], n, q, congrArg Value.type (of_decide_eq_true h1), rfl, Nat.zero_le _, .nil⟩
      | _ => cases h
    | _ => cases dt <;> cases h
theorem ex_at {K : PySem.W.Frag} {ex : List (PySem.W.Frag → Bool)} (h : (ex.all fun e => e K) = true) (i : Nat) {e : PySem.W.Frag → Bool} (hi : ex[i]? = some e := by rfl) : e K = true := List.all_eq_true.mp h e (List.mem_of_getElem? hi)
theorem k_sfld {X : Cx} {o value : Expr} {ta tv : TE} {f : Str} {pos pos' : Pos} (K : PySem.W.Frag) (ha : PE X o ta) (hv : PE X value tv) (hs : swapsWith value (some (.Attribute o f pos')) pos.line X.env = pure false) (hK : X.K = K := by rfl) : PS X (.Assign [.Attribute o f pos'] value pos) (sFld K ta tv f) := by subst hK; exact ps_fld ha hv hs
section
variable {X : Cx} {CX : CXT} {k n : Nat} {f : Addr} {fd : FuncData} {C m q : Str} {st : Stmt} {dvs : List V} {ps ks : List Str} {js : List Nat} {sp : Sp} {E : XK} {p pos apos : Pos} {e o : Expr} {es : List Expr} {kws : List Keyword} {ta : TE} {t tk : TA} {fs : List Str} {g : List Value → List Value → List Value} {gV : List V → List V → List V}
theorem runGN {pins : List (Addr × Obj)} {σ : L2.St} {H : Hp} {s : Shared} {Q : VK} {us ws : List Value} {vs zs : List V} (F : FnG X.prog X.w X.K X.mg X.base CX k f fd ps sp) (hr : Room k X.A) (hg : X.A.guards = some []) (hx : Passes CX X E) (hb : KBn X.K fd ps n ks g gV)
    (I : Inv X pins σ H s) (r : Vals vs us) (rz : Vals zs ws) (l1 : vs.length = n) (l2 : zs.length = ks.length) (h : sp (gV vs zs) H Q E) : wpAny (model X.prog X.w) X.A (call (.ref f) us (ks.zip ws)) (EP X pins σ Q) X.xe s :=
  runG (args := ⟨us, ks.zip ws⟩) F hr hg hx I (hb.rel r rz) (hb.to s us ws I.kIn (by rw [← r.length]; exact l1) (by rw [← rz.length]; exact l2)) h
theorem run_makeG {pins : List (Addr × Obj)} {σ : L2.St} {H : Hp} {s : Shared} {Q : VK} {us ws : List Value} {vs zs : List V} {C : Addr} (M : Mk X.K C f) (F : FnG X.prog X.w X.K X.mg X.base CX k f fd ps sp) (hr : Room (k + 1) X.A) (hg : X.A.guards = some []) (hb : KBn X.K fd ps (n + 1) ks g gV)
    (hx : Passes CX X E) (I : Inv X pins σ H s) (r : Vals vs us) (rz : Vals zs ws) (l1 : vs.length = n) (l2 : zs.length = ks.length)
    (h : ∀ x dx, H x = none → H dx = none → dx ≠ x → sp (gV (.ref x :: vs) zs) (upd (upd H dx (.own x)) x (.ins C dx [])) (fun v H2 => v = .non ∧ Q (.ref x) H2) E) :
    wpAny (model X.prog X.w) X.A (call (.ref C) us (ks.zip ws)) (EP X pins σ Q) X.xe s := by
  have hq := h (s.heap.objs.size + 1) s.heap.objs.size (I.hok.fresh (Nat.le_succ _)) (I.hok.fresh (Nat.le_refl _)) (Nat.ne_of_lt (Nat.lt_succ_self _))
  have I2 := Inv.made (C := C) I
  have r1 : Vals (V.ref (s.heap.objs.size + 1) :: vs) (Value.ref (s.heap.objs.size + 1) :: us) := .cons rfl r
  have r2 := hb.rel r1 rz
  have e1 : (Value.ref (s.heap.objs.size + 1) :: us).length = n + 1 := r1.length.symm.trans (congrArg Nat.succ l1)
  have e2 : ws.length = ks.length := rz.length.symm.trans l2
  refine wpAny_call (make_map (f := f) I.kIn M.makes M.init (beq_iff_eq.mp M.fn) (codeAny_mono (F.run _ X.stack _ _ ⟨Value.ref (s.heap.objs.size + 1) :: us, ks.zip ws⟩ (g (Value.ref (s.heap.objs.size + 1) :: us) ws) _ _ E (hr.make C us (ks.zip ws)) hg
    (I2.env0.make C us (ks.zip ws)) (hb.to _ (Value.ref (s.heap.objs.size + 1) :: us) ws I2.kIn e1 e2) r2 hq) fun r s' hq' => ?_))
  cases r with
  | error e => exact hx pins σ _ _ e s' I2 hq'
  | ok fl =>
    cases fl with
    | ret u =>
      obtain ⟨v, H', I3, rv, ev, q3⟩ := I2.after hq'
      subst ev
      exact ⟨rv, ⟨V.ref (s.heap.objs.size + 1), H', I3, rfl, q3⟩⟩
    | next => exact False.elim hq'
    | brk => exact False.elim hq'
    | cont => exact False.elim hq'
/-- C(e, ..) -/
theorem pe_mk (c : ClsF X.K X.mg C fs) (F : HasM X.prog X.w X.K X.mg X.base CX k C "__init__" q st dvs ps sp) (hb : BindJ "__init__" q st ps dvs.length (n + 1) [] js) (hr : Room (k + 1) X.A) (hg : X.A.guards = some []) (hgl : Gl X C) (hx : Passes CX X E)
    (ha : PA X (e :: es) t) (hdb : (C == ("__debug__" : Str)) = false := by decide) (he : starEach (e :: es) X.env = (false, eval e X.env) :: starEach es X.env := by rfl) (hpl : (backTo pos (starEach es X.env)).any (·.1) = false := by rfl) :
    PE X (.Call (.Name C p) (e :: es) [] pos) (tMkN (He.ga X.K C) sp n 0 js dvs E t tNil) := by
  obtain ⟨fd, FD, G⟩ := F.ex
  obtain ⟨g, B⟩ := kbn FD hb
  refine ⟨fun pins s σ H Q I h => ?_⟩
  refine wpAny_Call_Name_kw (ld_glob I hgl c.glo ?_ hdb)
  refine PySem.W.callWith_K (h₀ := X.base) I.ok.mod.kin c.mkr.kp (thn (ha.run pos pins s σ H _ I h) fun us s1 ⟨vs, H1, I1, r, l1, l2, q2⟩ => ⟨I1.kIn, ?_⟩) he hpl
  exact run_makeG (ks := []) (ws := []) (zs := []) c.mkr G hr hg B hx I1 r .nil l1 rfl q2
/-- o.m(e, ..) -/
theorem pe_mt {pl : Sem Bool} (c : ClsF X.K X.mg C fs) (F : HasM X.prog X.w X.K X.mg X.base CX k C m q st dvs ps sp) (hb : BindJ m q st ps dvs.length (n + 1) [] js) (hr : Room k X.A) (hg : X.A.guards = some []) (hx : Passes CX X E) (ho : PE X o ta) (ha : PA X (e :: es) t)
    (hst : starEach (e :: es) X.env = (false, eval e X.env) :: starEach es X.env := by rfl) (hpl : (backTo pos (starEach es X.env)).any (·.1) = false := by rfl)
    (ht : eval (.Call (.Attribute o m apos) (e :: es) [] pos) X.env = (do
      let ov ← eval o X.env
      standAt apos.atName
      let (f, first) ← holding [ov] (getMethod ov m pl)
      callWith pos f first (backTo pos (starEach (e :: es) X.env)) (backToKw pos (keywordEach [] X.env))) := by rfl) :
    PE X (.Call (.Attribute o m apos) (e :: es) [] pos) (tMtN (He.ga X.K C) m sp n 0 js dvs E ta t tNil) := by
  obtain ⟨fd, FD, G⟩ := F.ex
  obtain ⟨g, B⟩ := kbn FD hb
  refine ⟨fun pins s σ H Q I h => ?_⟩
  refine PySem.W.methodCall_KW (pl := pl) (thn (ho.run pins s σ H _ I h) fun u s1 ⟨x, H1, I1, rx, a, dx, fs, ex, ea, l, q⟩ => ?_) ht
  subst ex
  obtain rfl : u = Value.ref a := rx
  refine getmeth_ok I1 ea c.cls F.mt l ?_
  refine PySem.W.callWith_K (first := [.ref a]) (h₀ := X.base) I.ok.mod.kin F.mt.kp (thn (ha.run pos pins s1 σ H1 _ I1 q) fun us s2 ⟨vs, H2, I2, r, l1, l2, q2⟩ => ⟨I2.kIn, ?_⟩) hst hpl
  exact runGN (us := .ref a :: us) (vs := .ref a :: vs) (ks := []) (ws := []) (zs := []) G hr hg hx B I2 (.cons rfl r) .nil (congrArg Nat.succ l1) rfl q2
end
section
variable {K : PySem.W.Frag} {mg : Str → Option Value} {C f m : Str} {fs : List Str} {σ : L2.St} {H : Hp} {Q : VK} {ta tv : TE} {t tk : TA} {a dx : Addr} {fl : List (Str × V)} {v y : V} {De : Ends}
theorem w_fldN (h : ta σ H fun x H1 => FldC K f x H1 Q) : tFld K ta f σ H Q := h
theorem w_fldc (c : ClsF K mg C fs) (hf : f ∈ fs) (e : H a = some (.ins (He.ga K C) dx fl)) (l : fl.lookup f = some v) (h : Q v H) : FldC K f (.ref a) H Q := ⟨a, _, dx, fl, v, rfl, e, c.cls, c.na f hf, l, h⟩
theorem w_sfld (h : tv σ H fun y H1 => ta σ H1 fun x H2 => SetC K f x y H2 fun H3 => De.nx σ H3) : sFld K ta tv f De σ H := h
theorem w_setc (c : ClsF K mg C fs) (hf : f ∈ fs) {k : Hp → Prop} (e : H a = some (.ins (He.ga K C) dx fl)) (l : fl.length < 1000) (h : k (upd H a (.ins (He.ga K C) dx (putF f y fl)))) : SetC K f (.ref a) y H k := ⟨a, _, dx, fl, rfl, e, c.cls, c.na f hf, l, h⟩
theorem w_lenC {n k : Nat} {vs zs : List V} {P : Prop} (h1 : vs.length = n) (h2 : zs.length = k) (h : P) : LenC n k vs zs P := ⟨h1, h2, h⟩
theorem w_mtN {C : Addr} {sp : Sp} {n k : Nat} {js : List Nat} {dvs : List V} {E : XK} (h : ta σ H fun x H1 => MtC C m x H1 (t σ H1 fun vs H2 => tk σ H2 fun zs H3 => LenC n k vs zs (sp (pick js ((x :: vs) ++ zs ++ dvs)) H3 Q E))) : tMtN C m sp n k js dvs E ta t tk σ H Q := h
theorem w_mtc {C : Addr} {P : Prop} (e : H a = some (.ins C dx fl)) (l : fl.lookup m = none) (h : P) : MtC C m (.ref a) H P := ⟨a, dx, fl, rfl, e, l, h⟩
theorem w_mkN {C : Addr} {sp : Sp} {n k : Nat} {js : List Nat} {dvs : List V} {E : XK} (h : t σ H fun vs H1 => tk σ H1 fun zs H2 => LenC n k vs zs (MkG C sp js dvs vs zs H2 Q E)) : tMkN C sp n k js dvs E t tk σ H Q := h
theorem w_isiT (c : ClsF K mg C fs) (e : H a = some (.ins (He.ga K C) dx fl)) (h : Q (.bl true) H) : rIsi K [.ref a, .ref (He.ga K C)] H Q := ⟨_, _, _, _, true, rfl, .own _, .base (.ins e c.cls c.i1 c.i2 c.i3 c.i4), c.kt, h⟩
theorem w_isiF (c : ClsF K mg C fs) {d : PyData} (hd : Dp K H v d) (h : Q (.bl false) H) : rIsi K [v, .ref (He.ga K C)] H Q := ⟨_, _, _, _, false, rfl, .own _, ty_dp hd, c.kf _ (by cases d <;> simp [tyD]), h⟩
end
end TP



namespace TP
open PySem PySem.Spec PyProof.Rows L2
/-! ### the least number -/
def minL : List Int → Int
  | [] => 0
  | [a] => a
  | a :: b :: r => if a ≤ minL (b :: r) then a else minL (b :: r)
/-! ### dicts: membership, reading while locked, copying -/
def DInC (x y : V) (H : Hp) (k : Bool → Prop) : Prop := ∃ a o, x = .ref a ∧ DGet H a y o ∧ k o.isSome
def rDictD : List V → Hp → VK → Prop := fun xs H Q => ∃ (a : Addr) (kvs : List (Key × V)), xs = [.ref a] ∧ Rd H a (.dK kvs) ∧ ∀ p, H p = none → Q (.ref p) (upd H p (.dK kvs))
def OnK (R : It → Hp → Prop) (x : V) (H : Hp) : Prop := ∃ d o, x = .ref d ∧ ((∃ kvs, H d = some (.frz o (.dK kvs)) ∧ R (Itk d o kvs) H) ∨ ∃ kvs, H d = some (.frz o (.dT kvs)) ∧ R (Itkt d o kvs) H)
def DcOk (J : It) (g : TG) (tt : TT) (tk tv : TE) (vs : List Nat) (σ : L2.St) (H1 : Hp) (D : Addr) (Q : VK) : Prop := ∃ W : Nat → Nat → Hp → Prop, (∃ m, W 0 m (upd H1 D (.dK []))) ∧ ∀ i m H, W i m H →
  (J.stop i H ∧ Q (.ref D) H) ∨ (J.go i H ∧ ∃ Nx : Hp → Prop, (∀ H', Nx H' → ∃ m', m' < m ∧ W (i + 1) m' H') ∧ ∀ x H', J.yld i H x H' → g x (wipe σ vs) H' fun σ2 H2 => wipe σ2 vs = wipe σ vs ∧ tt σ2 H2 fun b H3 =>
    if b = true then tk σ2 H3 fun y H4 => tv σ2 H4 fun z H5 => ∃ kvs k, y = kV k ∧ H5 D = some (.dK kvs) ∧ kvs.length < sizeLine ∧ Nx (upd H5 D (.dK (putK kvs k z))) else Nx H3)
def WhC (m : Nat) (Pv : Nat → L2.St → Hp → Prop) (tb : TS) (De : Ends) (σ : L2.St) (H : Hp) : Prop := ∃ N : L2.St → Hp → Prop, (∀ σ' H', N σ' H' → ∃ m', m' < m ∧ Pv m' σ' H') ∧ tb { De with nx := N, ct := N, bk := De.nx } σ H
section
variable {K : PySem.W.Frag} {σ : L2.St} {H H1 : Hp} {Q : VK} {te td ty tx : TE} {a d : Addr} {kvs : List (Key × V)} {v : V} {R : It → Hp → Prop} {wi : TI} {g : TG} {tt : TT} {tk tv : TE} {vs : List Nat} {t : TE} {ts tb : TS} {De : Ends} {od : Obj} {D : Addr} {c : TT}
theorem w_din (h : ty σ H fun y H1 => td σ H1 fun x H2 => DInC x y H2 fun b => Q (.bl b) H2) : tDIn ty td σ H Q := by
  show ty σ H _
  exact h
theorem w_dnotin (h : ty σ H fun y H1 => td σ H1 fun x H2 => DInC x y H2 fun b => Q (.bl (!b)) H2) : tDNotIn ty td σ H Q := by
  show ty σ H _
  exact h
theorem w_dinc {n : Str} {k : Bool → Prop} (h1 : Rd H a (.dK kvs)) (h : k (valV kvs (.inr n)).isSome) : DInC (.ref a) (.str n) H k := ⟨a, _, rfl, .inl ⟨kvs, .inr n, h1, rfl, rfl⟩, h⟩
theorem w_iKeys (h : td σ H (OnK R)) : iKeys td σ H R := h
theorem w_dc (h : wi σ H fun J H1 => ∀ D, H1 D = none → DcOk J g tt tk tv vs σ H1 D Q) : tDc wi g tt tk tv vs σ H Q := h
/-- a statement, what holds behind it, and the rest -/
theorem w_cut {t u : TS} (Ex : L2.St → Hp → Prop) (hx : ∀ σ H, Ex σ H → u De σ H) (h : (∀ σ H, Ex σ H → u De σ H) → t { De with nx := u De } σ H) : tSeq t u De σ H := h hx
theorem w_whc {m : Nat} {Pv : Nat → L2.St → Hp → Prop} (h : tb { De with nx := fun σ' H' => ∃ m', m' < m ∧ Pv m' σ' H', ct := fun σ' H' => ∃ m', m' < m ∧ Pv m' σ' H', bk := De.nx } σ H) : WhC m Pv tb De σ H := ⟨_, fun _ _ h => h, h⟩
end
theorem kv_isSome (t : Bag) (n : Str) : (valV (kvOf t) (Sum.inr n)).isSome = decide (n ∈ t.map (·.1)) := by
  by_cases h : n ∈ t.map (·.1)
  · rw [kv_some h, decide_eq_true h]; rfl
  · rw [decide_eq_false h, kv_find]
    have : t.find? (fun p => decide (p.1 = n)) = none := List.find?_eq_none.mpr fun p hp => by simpa using fun e : p.1 = n => h (List.mem_map.mpr ⟨p, hp, e⟩)
    rw [this]; rfl
/-! ### tables: names once each, numbers from 1 on -/
abbrev keys (t : Bag) : List Str := t.map (·.1)
structure TabOk (t : Bag) : Prop where
  nd : (keys t).Nodup
  pos : ∀ p ∈ t, 1 ≤ p.2
theorem BagOk.tab {ps : Bag} (h : BagOk ps) : TabOk ps := ⟨asc_nodup h.asc, h.pos⟩
theorem bag_nodup {t : Bag} (h : (keys t).Nodup) : t.Nodup := by
  unfold List.Nodup at h ⊢
  exact List.Pairwise.of_map (·.1) (fun a b (h : a.1 ≠ b.1) e => h (by rw [e])) h
theorem mem_get {t : Bag} (h : TabOk t) {p : Str × Int} : p ∈ t ↔ getT t p.1 = p.2 ∧ 1 ≤ p.2 := by
  constructor
  · exact fun hp => ⟨getT_mem h.nd hp, h.pos p hp⟩
  · rintro ⟨e, h1⟩
    refine Classical.byContradiction fun z => ?_
    by_cases k : p.1 ∈ keys t
    · obtain ⟨q, hq, eq⟩ := List.mem_map.mp k
      have e2 := getT_mem h.nd hq
      have : q = p := Prod.ext eq (by rw [← e2, ← e, eq])
      exact z (this ▸ hq)
    · rw [getT_out (fun q hq eq => k (List.mem_map.mpr ⟨q, hq, eq⟩))] at e
      omega
/-- the same numbers: the same table, but for the order -/
theorem tab_perm {s t : Bag} (hs : TabOk s) (ht : TabOk t) (h : ∀ n, getT s n = getT t n) : s.Perm t :=
  (List.perm_ext_iff_of_nodup (bag_nodup hs.nd) (bag_nodup ht.nd)).mpr fun p => by rw [mem_get hs, mem_get ht, h]
theorem posI_of {i : Int} (h : 0 ≤ i) : posI i = i := by unfold posI; split <;> omega
/-! what putting does -/
theorem put_keys (t : Bag) (n : Str) (c : Int) : keys (putT t n c) = addN (keys t) n := by
  unfold putT addN keys
  have e : (t.any fun q => decide (q.1 = n)) = decide (n ∈ t.map (·.1)) := by
    by_cases h : n ∈ t.map (·.1)
    · rw [decide_eq_true h, List.any_eq_true]
      obtain ⟨q, hq, e⟩ := List.mem_map.mp h
      exact ⟨q, hq, decide_eq_true e⟩
    · rw [decide_eq_false h, Bool.eq_false_iff]
      intro z
      obtain ⟨q, hq, e⟩ := List.any_eq_true.mp z
      exact h (List.mem_map.mpr ⟨q, hq, of_decide_eq_true e⟩)
  rw [e]
  by_cases h : n ∈ t.map (·.1)
  · rw [if_pos (decide_eq_true h), if_pos h, List.map_map]
    refine List.map_congr_left fun q _ => ?_
    by_cases z : q.1 = n
    · simp [z]
    · simp [z]
  · rw [if_neg (by rw [decide_eq_false h]; exact Bool.false_ne_true), if_neg h, List.map_append]; rfl
theorem put_new {t : Bag} {n : Str} {c : Int} (h : n ∉ keys t) : putT t n c = t ++ [(n, c)] := by
  unfold putT
  rw [if_neg]
  intro z
  obtain ⟨q, hq, e⟩ := List.any_eq_true.mp z
  exact h (List.mem_map.mpr ⟨q, hq, of_decide_eq_true e⟩)
theorem put_mem {t : Bag} {n : Str} {c : Int} {p : Str × Int} (h : p ∈ putT t n c) : p ∈ t ∨ p = (n, c) := by
  unfold putT at h
  split at h
  · obtain ⟨q, hq, e⟩ := List.mem_map.mp h
    by_cases z : q.1 = n
    · rw [if_pos z] at e; right; rw [← e, z]
    · rw [if_neg z] at e; left; rw [← e]; exact hq
  · rcases List.mem_append.mp h with h | h
    · exact .inl h
    · exact .inr (List.mem_singleton.mp h)
theorem TabOk.put {t : Bag} (h : TabOk t) {n : Str} {c : Int} (hc : 1 ≤ c) : TabOk (putT t n c) := by
  refine ⟨by rw [put_keys]; exact addN_nodup h.nd, fun p hp => ?_⟩
  rcases put_mem hp with h1 | h1
  · exact h.pos p h1
  · rw [h1]; exact hc
theorem tabOf_self {ps : Bag} (h : (keys ps).Nodup) : tabOf ps = ps := by
  have : ∀ (ps acc : Bag), (keys (acc ++ ps)).Nodup → ps.foldl addT acc = acc ++ ps := by
    intro ps
    induction ps with
    | nil => intro acc _; simp
    | cons p r ih =>
      intro acc h
      rw [List.foldl_cons]
      have hn : p.1 ∉ keys acc := by
        unfold keys at h ⊢
        rw [List.map_append, List.nodup_append] at h
        exact fun z => h.2.2 _ z _ (List.mem_map.mpr ⟨p, List.mem_cons_self, rfl⟩) rfl
      have e : addT acc p = acc ++ [p] := by
        unfold addT
        rw [put_new hn, getT_out (fun q hq eq => hn (List.mem_map.mpr ⟨q, hq, eq⟩))]
        have : (p.1, (0 : Int) + p.2) = p := Prod.ext rfl (by show 0 + p.2 = p.2; omega)
        rw [this]
      rw [e, ih (acc ++ [p]) (by rw [List.append_assoc]; exact h), List.append_assoc]; rfl
  exact this ps [] h
/-! ### every number lowered by s, what is not above s left out -/
def lowT (t : Bag) (s : Int) : Bag := t.filterMap fun p => if s < p.2 then some (p.1, p.2 - s) else none
theorem lowT_cons (p : Str × Int) (r : Bag) (s : Int) : lowT (p :: r) s = (if s < p.2 then [(p.1, p.2 - s)] else []) ++ lowT r s := by
  unfold lowT
  rw [List.filterMap_cons]
  by_cases z : s < p.2
  · rw [if_pos z, if_pos z]; rfl
  · rw [if_neg z, if_neg z]; rfl
theorem lowT_mem {t : Bag} {s : Int} {p : Str × Int} (h : p ∈ lowT t s) : (p.1, p.2 + s) ∈ t ∧ 0 < p.2 := by
  unfold lowT at h
  obtain ⟨q, hq, e⟩ := List.mem_filterMap.mp h
  by_cases z : s < q.2
  · rw [if_pos z] at e
    cases e
    have : (q.1, q.2 - s + s) = q := Prod.ext rfl (by show q.2 - s + s = q.2; omega)
    exact ⟨by rw [this]; exact hq, by show 0 < q.2 - s; omega⟩
  · rw [if_neg z] at e; cases e
theorem lowT_keys {t : Bag} {s : Int} {n : Str} (h : n ∈ keys (lowT t s)) : n ∈ keys t := by
  obtain ⟨p, hp, rfl⟩ := List.mem_map.mp h
  exact List.mem_map.mpr ⟨_, (lowT_mem hp).1, rfl⟩
theorem lowT_nodup : ∀ {t : Bag} {s : Int}, (keys t).Nodup → (keys (lowT t s)).Nodup
  | [], _, h => h
  | p :: r, s, h => by
    have h' := List.nodup_cons.mp (show (p.1 :: keys r).Nodup from h)
    rw [lowT_cons]
    have ih := lowT_nodup (s := s) h'.2
    split
    · exact List.nodup_cons.mpr ⟨fun z => h'.1 (lowT_keys z), ih⟩
    · exact ih
theorem TabOk.low {t : Bag} (h : TabOk t) (s : Int) : TabOk (lowT t s) := ⟨lowT_nodup h.nd, fun p hp => by have := (lowT_mem hp).2; omega⟩
def minV (t : Bag) : Int := minL (t.map (·.2))
/-! ### m arrivals of a name at a table of at most c names -/
def arrT (c : Int) (t : Bag) (n : Str) (m : Int) : Bag × Int :=
  if n ∈ keys t ∨ (t.length : Int) ≠ c then (putT t n (getT t n + m), 0)
  else if m ≤ minV t then (lowT t m, m) else (putT (lowT t (minV t)) n (m - minV t), minV t)
structure ArrOk (c : Int) (t : Bag) : Prop where
  tab : TabOk t
  len : (t.length : Int) ≤ c
  cap : 1 ≤ c
theorem ArrOk.ne {c : Int} {t : Bag} (h : ArrOk c t) (e : (t.length : Int) = c) : t ≠ [] := by
  intro z
  have := h.cap
  rw [z] at e
  simp at e
  omega
/-- the sum grows by at most m -/
theorem sumC_put_new {t : Bag} {n : Str} {c : Int} (h : n ∉ keys t) : sumC (putT t n c) = sumC t + c := by
  rw [put_new h, sumC_app]
  have : sumC [(n, c)] = c := by simp [sumC]
  omega
theorem sumC_put : ∀ {t : Bag} {n : Str} {c : Int}, (keys t).Nodup → sumC (putT t n (getT t n + c)) = sumC t + c := by
  intro t n c hn
  by_cases k : n ∈ keys t
  · have aux : ∀ {t : Bag}, (keys t).Nodup → n ∈ keys t → sumC (t.map fun p => if p.1 = n then (p.1, getT t n + c) else p) = sumC t + c := by
      intro t
      induction t with
      | nil => intro _ h; cases h
      | cons p r ih =>
        intro nd h
        have nd' := List.nodup_cons.mp (show (p.1 :: keys r).Nodup from nd)
        rw [List.map_cons, sumC_cons, sumC_cons]
        by_cases e : p.1 = n
        · have er : (r.map fun q => if q.1 = n then (q.1, getT (p :: r) n + c) else q) = r := by
            conv => rhs; rw [← List.map_id r]
            refine List.map_congr_left fun q hq => ?_
            rw [if_neg (fun z => nd'.1 (by rw [e, ← z]; exact List.mem_map.mpr ⟨q, hq, rfl⟩))]; rfl
          rw [er, if_pos e, getT_cons, if_pos e]
          show p.2 + c + sumC r = _
          omega
        · rw [if_neg e, getT_cons, if_neg e]
          have h2 : n ∈ keys r := (List.mem_cons.mp h).resolve_left fun z => e z.symm
          rw [ih nd'.2 h2]; omega
    unfold putT
    rw [if_pos (List.any_eq_true.mpr (by obtain ⟨q, hq, e⟩ := List.mem_map.mp k; exact ⟨q, hq, decide_eq_true e⟩))]
    exact aux hn k
  · rw [sumC_put_new k, getT_out (fun q hq eq => k (List.mem_map.mpr ⟨q, hq, eq⟩))]; omega
end TP

namespace TP
open PySem PySem.Spec PyProof.Rows L2
/-! ### summaries -/
def betD (d : PyData) (i j : Int) : Bool := match d with
  | .int n => decide (i ≤ n) && decide (n ≤ j)
  | _ => false
abbrev sumF : List Str := ["capacity", "counts", "__bool__"]
structure SumV (c : Int) (ps : Bag) : Prop where
  c1 : 1 ≤ c
  c8 : c ≤ 8
  ok : BagOk ps
  len : (ps.length : Int) ≤ c
def SumO (K : PySem.W.Frag) (H : Hp) (v : V) (c : Int) (ps : Bag) : Prop := ∃ a dx b, v = .ref a ∧ H a = some (.ins (He.ga K "Summary") dx [("capacity", .int c), ("counts", b)]) ∧ Dp K H b (bagD ps)
def spInit (K : PySem.W.Frag) : Sp := fun vs H Q _ => ∃ (x dx : Addr) (c : Int) (ps : Bag) (b : V), vs = [.ref x, .int c, b] ∧ H x = some (.ins (He.ga K "Summary") dx []) ∧ Dp K H b (bagD ps) ∧ SumV c ps ∧
  ∀ H', SameB x H H' → H' x = some (.ins (He.ga K "Summary") dx [("capacity", .int c), ("counts", b)]) → Q .non H'
section
variable {K : PySem.W.Frag} {mg : Str → Option Value} {H H' : Hp} {Q : VK} {v : V} {c : Int} {ps : Bag}
theorem sum_same (s : Same H H') (h : SumO K H v c ps) : SumO K H' v c ps := by
  obtain ⟨a, dx, b, rfl, h1, h2⟩ := h
  exact ⟨a, dx, b, rfl, s _ _ h1, dp_same s h2⟩
theorem w_sumCap (cl : ClsF K mg "Summary" sumF) (h : SumO K H v c ps) (q : Q (.int c) H) : FldC K "capacity" v H Q := by
  obtain ⟨a, dx, b, rfl, h1, h2⟩ := h
  exact w_fldc cl (by decide) h1 rfl q
theorem w_sumCnt (cl : ClsF K mg "Summary" sumF) (h : SumO K H v c ps) (q : ∀ b, Dp K H b (bagD ps) → Q b H) : FldC K "counts" v H Q := by
  obtain ⟨a, dx, b, rfl, h1, h2⟩ := h
  exact w_fldc cl (by decide) h1 (by rfl) (q b h2)
theorem w_sumMt {m : Str} {P : Prop} (h : SumO K H v c ps) (hm : (m != "capacity" && m != "counts") = true) (q : P) : MtC (He.ga K "Summary") m v H P := by
  obtain ⟨a, dx, b, rfl, h1, h2⟩ := h
  have h' := Bool.and_eq_true_iff.mp hm
  refine w_mtc h1 ?_ q
  rw [List.lookup_cons, List.lookup_cons]
  have e1 : (m == "capacity") = false := by simpa [bne] using h'.1
  have e2 : (m == "counts") = false := by simpa [bne] using h'.2
  rw [e1, e2]; rfl
theorem w_isSum (cl : ClsF K mg "Summary" sumF) (h : SumO K H v c ps) (q : Q (.bl true) H) : rIsi K [v, .ref (He.ga K "Summary")] H Q := by
  obtain ⟨a, dx, b, rfl, h1, h2⟩ := h
  exact w_isiT cl h1 q
theorem w_mkSum {sp : Sp} {js : List Nat} {dvs vs zs : List V} {b : V} {E : XK} (hp : ∀ x, pick js ((V.ref x :: vs) ++ zs ++ dvs) = [.ref x, .int c, b]) (hd : Dp K H b (bagD ps)) (hv : SumV c ps) (k : ∀ v H', Same H H' → SumO K H' v c ps → Q v H') (hsp : sp = spInit K := by rfl) :
    MkG (He.ga K "Summary") sp js dvs vs zs H Q E := by
  subst hsp
  intro x dx hx hdx ne
  rw [hp x]
  have s1 : Same H (upd (upd H dx (.own x)) x (.ins (He.ga K "Summary") dx [])) := same_step (same_new hdx) (by rw [upd_ne ne.symm]; exact hx)
  refine ⟨x, dx, c, ps, b, rfl, upd_same, dp_same s1 hd, hv, fun H' sb e => ⟨rfl, k _ _ (fun z o ez => sb z o (ne_of_none ez hx) (s1 z o ez)) ⟨x, dx, b, rfl, e, ?_⟩⟩⟩
  exact dp_flat (fun z o ez nl _ => sb z o (ne_of_none ez hx) (s1 z o ez)) hd (flat_bag ps)
end
/-! ### several arrivals, one behind another -/
def playT (c : Int) (t : Bag) (rs : Bag) : Bag × Int := rs.foldl (fun z r => ((arrT c z.1 r.1 r.2).1, z.2 + (arrT c z.1 r.1 r.2).2)) (t, 0)
def playF (c : Int) (z : Bag × Int) (rs : Bag) : Bag × Int := rs.foldl (fun z r => ((arrT c z.1 r.1 r.2).1, z.2 + (arrT c z.1 r.1 r.2).2)) z
/-! ### what is shown of a summary -/
theorem sumC_perm {a b : Bag} (h : a.Perm b) : sumC a = sumC b := by
  induction h with
  | nil => rfl
  | cons x _ ih => rw [sumC_cons, sumC_cons, ih]
  | swap x y l => rw [sumC_cons, sumC_cons, sumC_cons, sumC_cons]; omega
  | trans _ _ h1 h2 => rw [h1, h2]
theorem WordsOk.take {ws : List Str} {n : Nat} (h : WordsOk ws n) (k : Nat) : WordsOk (ws.take k) (ws.take k).length := ⟨rfl, h.nd.sublist (List.take_sublist k ws), fun w hw => h.nam w (List.mem_of_mem_take hw)⟩
theorem WordsOk.drop {ws : List Str} {n : Nat} (h : WordsOk ws n) (k : Nat) : WordsOk (ws.drop k) (ws.drop k).length := ⟨rfl, h.nd.sublist (List.drop_sublist k ws), fun w hw => h.nam w (List.mem_of_mem_drop hw)⟩
/-! ### slices of tuples of data -/
def cutL {α : Type} (xs : List α) (lo hi : Option Int) : List α := (xs.drop (HT.sIx xs.length 0 lo)).take (HT.sIx xs.length xs.length hi - HT.sIx xs.length 0 lo)
theorem OrdOk.take {rs : Bag} (h : OrdOk rs) (k : Nat) : OrdOk (rs.take k) := ⟨fun p hp => h.nam p (List.mem_of_mem_take hp), fun p hp => h.pos p (List.mem_of_mem_take hp), by have := h.len; rw [List.length_take]; omega,
  Nat.le_trans (by rw [List.map_take]; exact namesOf_take) h.few⟩
theorem OrdOk.drop {rs : Bag} (h : OrdOk rs) (k : Nat) : OrdOk (rs.drop k) := ⟨fun p hp => h.nam p (List.mem_of_mem_drop hp), fun p hp => h.pos p (List.mem_of_mem_drop hp), by have := h.len; rw [List.length_drop]; omega,
  Nat.le_trans (nodup_sub_len (namesOf_nodup _) fun x hx => by
    obtain ⟨p, hp, e⟩ := List.mem_map.mp (namesOf_mem.mp hx)
    exact namesOf_mem.mpr (List.mem_map.mpr ⟨p, List.mem_of_mem_drop hp, e⟩)) h.few⟩
theorem BagOk.take {ps : Bag} (h : BagOk ps) (k : Nat) : BagOk (ps.take k) := ⟨h.asc.sublist (List.take_sublist k ps), fun p hp => h.nam p (List.mem_of_mem_take hp), fun p hp => h.pos p (List.mem_of_mem_take hp)⟩
theorem BagOk.drop {ps : Bag} (h : BagOk ps) (k : Nat) : BagOk (ps.drop k) := ⟨h.asc.sublist (List.drop_sublist k ps), fun p hp => h.nam p (List.mem_of_mem_drop hp), fun p hp => h.pos p (List.mem_of_mem_drop hp)⟩
/-! ### a tuple times a number -/
end TP

namespace TP
open PySem PySem.Spec PyProof.Rows L2
/-! ### sorted(.., reverse=True) of numbers -/
section
variable {K : PySem.W.Frag} {σ : L2.St} {H : Hp} {Q : VK} {t tk : TA} {a : Addr}
theorem w_ckw {r : List V → List V → Hp → VK → Prop} (h : t σ H fun vs H1 => tk σ H1 fun zs H2 => r vs zs H2 Q) : tCKw r t tk σ H Q := h
end
/-! ### the number at place c of the ranks -/
def CutR (t : Bag) (c : Int) (x : Int) : Prop := ∃ ns : List Int, ns.Perm (t.map (·.2)) ∧ ns.Pairwise (· ≥ ·) ∧ x = if c < (ns.length : Int) then ns.getD c.toNat 0 else 0
/-! ### tables of several bags -/
/-- two bags merged: what is above the rank's number, lowered by it -/
def MergeR (c : Int) (ps qs r : Bag) : Prop := ∃ x, CutR (tabOf (ps ++ qs)) c x ∧ IsCan (fun n => posI (cntC (ps ++ qs) n - x)) r
/-- every number less x -/
def subT (t : Bag) (x : Int) : Bag := t.map fun p => (p.1, p.2 - x)
end TP

namespace TP
open PySem PySem.Spec PyProof.Rows L2
/-! ### a + b arrivals of a name are a and then b -/
theorem getT_no {t : Bag} {n : Str} (h : n ∉ keys t) : getT t n = 0 := getT_out fun q hq eq => h (List.mem_map.mpr ⟨q, hq, eq⟩)
/-! ### one by one -/
def stepN (c : Int) (z : Bag × Int) (n : Str) : Bag × Int := ((arrT c z.1 n 1).1, z.2 + (arrT c z.1 n 1).2)
def unitsT (c : Int) (t : Bag) (ns : List Str) : Bag × Int := ns.foldl (stepN c) (t, 0)
/-- what one more arrival, somewhere ahead, has changed -/
inductive Late (c : Int) (t : Bag) (l : Int) (t' : Bag) (l' : Int) : Prop
  | more (k : Str) (h : ∀ n, getT t' n = getT t n + if n = k then 1 else 0) (e : l' = l) : Late c t l t' l'
  | less (f : (t.length : Int) = c) (h : ∀ n, getT t' n = posI (getT t n - 1)) (e : l' = l + 1) : Late c t l t' l'
end TP

namespace TP
open PySem PySem.Spec PyProof.Rows L2
/-! ### dict(..) of a list of pairs -/
def rDictP (K : PySem.W.Frag) : List V → Hp → VK → Prop := fun xs H Q => ∃ (a : Addr) (ps : List Addr) (kvs : List (Key × V)), xs = [.ref a] ∧ SqL K H a (ps.map V.ref) ∧ Paired (fun p kv => SqT K H p [kV kv.1, kv.2]) ps kvs ∧
    ∀ p, H p = none → Q (.ref p) (upd H p (.dK (mergeK [] kvs)))
theorem k_dictP {X : Cx} (K : PySem.W.Frag) (hc : X.calm = true) (h : X.K = K := by rfl) : CallR X (.type "dict") (rDictP K) := by subst h; exact call_dictP hc
theorem merge_self {ps : Bag} (h : (keys ps).Nodup) : mergeK [] (kvOf ps) = kvOf ps := by
  have : ∀ (ps acc : Bag), (keys (acc ++ ps)).Nodup → mergeK (kvOf acc) (kvOf ps) = kvOf (acc ++ ps) := by
    intro ps
    induction ps with
    | nil => intro acc _; simp [mergeK, kvOf]
    | cons p r ih =>
      intro acc h
      have hn : p.1 ∉ keys acc := by
        unfold keys at h ⊢
        rw [List.map_append, List.nodup_append] at h
        exact fun z => h.2.2 _ z _ (List.mem_map.mpr ⟨p, List.mem_cons_self, rfl⟩) rfl
      show mergeK (putK (kvOf acc) (Sum.inr p.1) (.int p.2)) (kvOf r) = _
      rw [kv_put, put_new hn, ih (acc ++ [(p.1, p.2)]) (by rw [List.append_assoc]; exact h), List.append_assoc]; rfl
  exact this ps [] h
theorem pairs_of {K : PySem.W.Frag} {H : Hp} : ∀ {xs : List V} {ps : Bag}, DpAll K H xs (ps.map pairD) → ∃ as : List Addr, xs = as.map V.ref ∧ Paired (fun p kv => SqT K H p [kV kv.1, kv.2]) as (kvOf ps)
  | [], [], _ => ⟨[], rfl, .nil⟩
  | x :: xs, p :: ps, h => by
    cases h with
    | cons h1 h2 =>
      obtain ⟨a, rfl, hs⟩ := pair_inv h1
      obtain ⟨as, rfl, hp⟩ := pairs_of h2
      exact ⟨a :: as, rfl, .cons hs hp⟩
theorem w_dictP {K : PySem.W.Frag} {H : Hp} {Q : VK} {a : Addr} {xs : List V} {ps : Bag} (hl : SqL K H a xs) (hd : DpAll K H xs (ps.map pairD)) (nd : (keys ps).Nodup) (h : ∀ p, H p = none → Q (.ref p) (upd H p (.dK (kvOf ps)))) : rDictP K [.ref a] H Q := by
  obtain ⟨as, rfl, hp⟩ := pairs_of hd
  refine ⟨a, as, kvOf ps, rfl, hl, hp, fun p hp => ?_⟩
  rw [merge_self nd]
  exact h p hp
end TP

namespace TP
open PySem PySem.Spec PyProof.Rows L2
/-! ### tuples alone are as they were -/
def SameU (H H' : Hp) : Prop := ∀ a o, H a = some o → ((∃ xs, o = .tup xs) ∨ ∃ ob xs, o = .frz ob (.tup xs)) → H' a = some o
theorem SameU.sqt {K : PySem.W.Frag} {H H' : Hp} {a : Addr} {xs : List V} (s : SameU H H') (h : SqT K H a xs) : SqT K H' a xs := by
  rcases h with (h | ⟨o, h⟩) | h
  · exact .inl (.inl (s _ _ h (.inl ⟨_, rfl⟩)))
  · exact .inl (.inr ⟨o, s _ _ h (.inr ⟨_, _, rfl⟩)⟩)
  · exact .inr h
mutual
theorem dp_flatU {K : PySem.W.Frag} {H H' : Hp} (s : SameU H H') : ∀ {v : V} {d : PyData}, Dp K H v d → flatD d = true → Dp K H' v d
  | _, _, .non, _ => .non
  | _, _, .bl b, _ => .bl b
  | _, _, .int i, _ => .int i
  | _, _, .str x, _ => .str x
  | _, _, .lst h r, f => by simp [flatD] at f
  | _, _, .tup h r, f => .tup (s.sqt h) (dps_flatU s r (by simpa [flatD] using f))
theorem dps_flatU {K : PySem.W.Frag} {H H' : Hp} (s : SameU H H') : ∀ {vs : List V} {ds : List PyData}, DpAll K H vs ds → flatDs ds = true → DpAll K H' vs ds
  | _, _, .nil, _ => .nil
  | _, _, .cons h r, f => by
    have f2 := Bool.and_eq_true_iff.mp (show (flatD _ && flatDs _) = true from f)
    exact .cons (dp_flatU s h f2.1) (dps_flatU s r f2.2)
end
theorem SameU.trans {H H1 H2 : Hp} (a : SameU H H1) (b : SameU H1 H2) : SameU H H2 := fun c o h n => b c o (a c o h n) n
/-! ### small things -/
theorem eqV_str (a b : Str) : eqV (.str a) (.str b) = decide (a = b) := by
  show (a == b) = decide (a = b)
  by_cases z : a = b
  · subst z; simp
  · rw [decide_eq_false z, beq_eq_false_iff_ne]; exact z
theorem inV_str (x : Str) (ws : List Str) : inV (.str x) (ws.map V.str) = decide (x ∈ ws) := by
  unfold inV
  rw [List.any_map]
  by_cases z : x ∈ ws
  · rw [decide_eq_true z, List.any_eq_true]
    exact ⟨x, z, by show eqV (.str x) (.str x) = true; rw [eqV_str]; exact decide_eq_true rfl⟩
  · rw [decide_eq_false z, Bool.eq_false_iff]
    intro q
    obtain ⟨y, hy, e⟩ := List.any_eq_true.mp q
    have e2 : eqV (.str y) (.str x) = true := e
    rw [eqV_str] at e2
    exact z (of_decide_eq_true e2 ▸ hy)
theorem flat_strs (ws : List Str) : (ws.map V.str).all flatV = true := by
  rw [List.all_eq_true]
  intro y hy
  obtain ⟨w, _, rfl⟩ := List.mem_map.mp hy
  rfl
section
variable {K : PySem.W.Frag} {H : Hp} {Q : VK} {a l : Addr} {x : Str} {ws : List Str}
theorem w_intB {k : Bool} (h : Q (.int (if k then 1 else 0)) H) : rInt1 [.bl k] H Q := .inr ⟨k, rfl, h⟩
end
/-! ### data that can be compared -/
/-! ### names of tables -/
end TP

namespace TP
open PySem PySem.Spec PyProof.Rows L2
/-! ### special methods of a class of the program: len, repr, str, bool, == -/
section
variable {X : Cx} {CX : CXT} {k n : Nat} {f : Addr} {fd : FuncData} {C m q : Str} {st : Stmt} {ps : List Str} {js : List Nat} {sp : Sp} {E : XK} {fs : List Str} {g : List Value → List Value → List Value} {gV : List V → List V → List V}
def rLenO (C : Addr) (sp : Sp) (js : List Nat) (E : XK) : List V → Hp → VK → Prop := fun xs H Q => ∃ a dx fl, xs = [.ref a] ∧ H a = some (.ins C dx fl) ∧ sp (pick js ([.ref a] ++ [] ++ [])) H (fun v H' => ∃ n : Int, v = .int n ∧ 0 ≤ n ∧ n < 2 ^ 63 ∧ Q (.int n) H') E
def rStrO (C : Addr) (sp : Sp) (js : List Nat) (E : XK) : List V → Hp → VK → Prop := fun xs H Q => ∃ a dx fl, xs = [.ref a] ∧ H a = some (.ins C dx fl) ∧ sp (pick js ([.ref a] ++ [] ++ [])) H (fun v H' => ∃ y : Str, v = .str y ∧ Q (.str y) H') E
def rBoolO (C : Addr) (sp : Sp) (js : List Nat) (E : XK) : List V → Hp → VK → Prop := fun xs H Q => ∃ a dx fl, xs = [.ref a] ∧ H a = some (.ins C dx fl) ∧ sp (pick js ([.ref a] ++ [] ++ [])) H (fun v H' => ∃ n : Int, v = .int n ∧ 0 ≤ n ∧ n < 2 ^ 63 ∧ Q (.bl (n != 0)) H') E
end
/-! truth by a class's __len__ -/
section
variable {prog : Program} {w : World} {A : Around} {E : Value → Shared → Prop} {s : Shared} {K : PySem.W.Frag} {x C f : Addr} {ox : Obj} {od : Option Obj}
end
section
variable {X : Cx} {CX : CXT} {k n : Nat} {f : Addr} {fd : FuncData} {C m q : Str} {st : Stmt} {ps : List Str} {js : List Nat} {sp : Sp} {E : XK}
/-! == -/
def rEqO (C : Addr) (sp : Sp) (js : List Nat) (E : XK) : R2 := fun x y H Q => ∃ a b dx dy fl gl, x = .ref a ∧ y = .ref b ∧ H a = some (.ins C dx fl) ∧ H b = some (.ins C dy gl) ∧ sp (pick js ([.ref a, .ref b] ++ [] ++ [])) H (fun v H' => ∃ c : Bool, v = .bl c ∧ Q (.bl c) H') E
end
section
variable {X : Cx} {CX : CXT} {k n : Nat} {C q : Str} {st : Stmt} {ps : List Str} {js : List Nat} {sp : Sp} {E : XK} {fs : List Str} (K : PySem.W.Frag)
end
section
variable {K : PySem.W.Frag} {H : Hp} {Q : VK} {v w : V} {c d : Int} {ps qs : Bag} {sp : Sp} {js : List Nat} {E : XK}
end
end TP

namespace TP
open PySem PySem.Spec PyProof.Rows L2
/-! ### what a name loses -/
def sgnB (s : Int) (ps : Bag) : Bag := ps.map fun p => (p.1, s * p.2)
/-! ### what merging takes away -/
theorem sum_pos : ∀ (ns : List Int), (∀ y ∈ ns, 0 ≤ y) → 0 ≤ ns.sum
  | [], _ => by simp
  | y :: r, h => by
    have h1 := h y List.mem_cons_self
    have h2 := sum_pos r fun z hz => h z (List.mem_cons_of_mem _ hz)
    rw [List.sum_cons]; omega
theorem sum_perm {a b : List Int} (h : a.Perm b) : a.sum = b.sum := by
  induction h with
  | nil => rfl
  | cons x _ ih => rw [List.sum_cons, List.sum_cons, ih]
  | swap x y l => rw [List.sum_cons, List.sum_cons, List.sum_cons, List.sum_cons]; omega
  | trans _ _ h1 h2 => rw [h1, h2]
end TP

namespace TP
open PySem PySem.Spec PyProof.Rows L2
/-! ### texts of counts -/
def intS (i : Int) : Str := Str.ofString (toString i)
def ptS (p : Str × Int) : Str := p.1 ++ (":" : Str) ++ intS p.2
def cText (ps : Bag) : Str := if ps = [] then "-" else Txt.join " " (ps.map ptS)
/-! readings of texts -/
def FmtC (x : V) (H : Hp) (Q : VK) : Prop := (∃ y : Str, x = .str y ∧ y.length ≤ sizeLine ∧ Q (.str y) H) ∨ ∃ i : Int, x = .int i ∧ i.natAbs.log2 < 1920 ∧ Q (.str (toString i)) H
def JsC (ts : List TE) (acc : Str) (σ : L2.St) (Q : Str → Hp → Prop) (x : V) (H : Hp) : Prop := ∃ y : Str, x = .str y ∧ (acc ++ y).length ≤ sizeLine ∧ tJs ts (acc ++ y) σ H Q
def tJoined (ts : List TE) : TE := fun σ H Q => tJs ts Str.empty σ H fun out H1 => Q (.str out) H1
def rStrI : List V → Hp → VK → Prop := fun xs H Q => ∃ i, xs = [.int i] ∧ i.natAbs.log2 < 1920 ∧ Q (.str (toString i)) H
def rStrS : List V → Hp → VK → Prop := fun xs H Q => ∃ a, xs = [.str a] ∧ Q (.str a) H
def OrC (K : PySem.W.Frag) (tb : TE) (σ : L2.St) (Q : VK) (x : V) (H : Hp) : Prop := ∃ k, TruV K x H k ∧ if k = true then Q x H else tb σ H Q
def AndC (K : PySem.W.Frag) (tb : TE) (σ : L2.St) (Q : VK) (x : V) (H : Hp) : Prop := ∃ k, TruV K x H k ∧ if k = true then tb σ H Q else Q x H
section
variable {K : PySem.W.Frag} {σ : L2.St} {H : Hp} {Q : VK} {QS : Str → Hp → Prop} {te ta tb : TE} {ts : List TE} {acc y : Str} {i : Int}
theorem w_neBl {a b : Bool} (h : Q (.bl (!decide (a = b))) H) : rNe (.bl a) (.bl b) H Q := by
  refine ⟨rfl, ?_⟩
  have e : decide (V.bl a = V.bl b) = decide (a = b) := by
    by_cases z : a = b
    · subst z; simp
    · rw [decide_eq_false z, decide_eq_false fun q => z (V.bl.inj q)]
  rw [e]; exact h
theorem w_eqBl {a b : Bool} (h : Q (.bl (decide (a = b))) H) : rEq (.bl a) (.bl b) H Q := by
  refine ⟨rfl, ?_⟩
  have e : decide (V.bl a = V.bl b) = decide (a = b) := by
    by_cases z : a = b
    · subst z; simp
    · rw [decide_eq_false z, decide_eq_false fun q => z (V.bl.inj q)]
  rw [e]; exact h
theorem w_fmt (h : te σ H fun x H1 => FmtC x H1 Q) : tFmt te σ H Q := h
theorem w_joined (h : tJs ts Str.empty σ H fun out H1 => Q (.str out) H1) : tJoined ts σ H Q := h
theorem w_jcons (h : te σ H fun x H1 => JsC ts acc σ QS x H1) : tJs (te :: ts) acc σ H QS := h
theorem w_jnil (h : QS acc H) : tJs [] acc σ H QS := h
theorem w_strS (h : Q (.str y) H) : rStrS [.str y] H Q := ⟨y, rfl, h⟩
theorem w_orT (h : ta σ H fun x H1 => OrC K tb σ Q x H1) : tOrT K ta tb σ H Q := h
theorem w_andT (h : ta σ H fun x H1 => AndC K tb σ Q x H1) : tAndT K ta tb σ H Q := h
end
/-! ### bags that are compared -/
section
variable {K : PySem.W.Frag} {H : Hp} {Q : VK} {v w : V} {ps qs : Bag}
end
end TP

namespace TP
open PySem PySem.Spec PyProof.Rows L2
/-! ### dicts that are compared -/
def rNeDt : R2 := fun x y H Q => ∃ a b s t, x = .ref a ∧ y = .ref b ∧ H a = some (.dK (kvOf s)) ∧ H b = some (.dK (kvOf t)) ∧ TabOk s ∧ s.Perm t ∧ Q (.bl false) H
end TP

namespace TP
open PySem PySem.Spec PyProof.Rows L2
/-! ### sorted(..) of pairs of a name and a number -/
def PairAt (h : Heap) (v : Value) (y : Str) (i : Int) : Prop := ∃ a t u o n, v = Value.ref a ∧ h.get? a = some o ∧ o.cls = .type "tuple" ∧ o.data = .seq #[Value.str y t, Value.int i u] n
def nmAt (h : Heap) (v : Value) : Str := match v with
  | .ref a => match h.get? a with
    | some o => match o.data with
      | .seq its _ => match its[0]? with
        | some (Value.str y _) => y
        | _ => Str.empty
      | _ => Str.empty
    | none => Str.empty
  | _ => Str.empty
theorem PairAt.nm {h : Heap} {v : Value} {y : Str} {i : Int} (x : PairAt h v y i) : nmAt h v = y := by
  obtain ⟨a, t, u, o, n, rfl, ho, hc, hd⟩ := x
  unfold nmAt
  simp only [ho, hd]
  rfl
theorem PairAt.keeps {h h' : Heap} {v : Value} {y : Str} {i : Int} (x : PairAt h v y i) (k : ∀ b o, h.get? b = some o → o.cls = .type "tuple" → h'.get? b = some o) : PairAt h' v y i := by
  obtain ⟨a, t, u, o, n, rfl, ho, hc, hd⟩ := x
  exact ⟨a, t, u, o, n, rfl, k a o ho hc, hc, hd⟩
theorem firstsP {h : Heap} : ∀ vs : List Value, (∀ v ∈ vs, ∃ y i, PairAt h v y i) → ∃ fs, PySem.W.KatTups h vs fs ∧ fs.length = vs.length ∧ ∀ f, f ∈ fs → ∃ y t, f = Value.str y t
  | [], _ => ⟨[], PySem.W.KatTups.nil, rfl, fun f hf => by simp at hf⟩
  | v :: vs, x => by
    obtain ⟨fs, k, hl, hi⟩ := firstsP vs fun u hu => x u (List.mem_cons_of_mem _ hu)
    obtain ⟨y, i, a, t, u, o, n, rfl, ho, hc, hd⟩ := x v List.mem_cons_self
    refine ⟨Value.str y t :: fs, PySem.W.KatTups.cons ho hc hd rfl k, by simp [hl], ?_⟩
    intro f hf
    rcases List.mem_cons.mp hf with rfl | hf
    · exact ⟨y, t, rfl⟩
    · exact hi f hf
section
variable {prog : Program} {w : World} {A : Around} {E : Value → Shared → Prop} {s : Shared}
theorem kind_pairs {vs : List Value} {ρ : Str → Int} (h2 : 2 ≤ vs.length) (x : ∀ v ∈ vs, ∃ y i, PairAt s.heap v y i)
    (inj : ∀ v ∈ vs, ∀ u ∈ vs, ∀ y i j, PairAt s.heap v y i → PairAt s.heap u y j → i = j)
    (hρ : ∀ v ∈ vs, ∀ u ∈ vs, ∀ y z i j, PairAt s.heap v y i → PairAt s.heap u z j → decide (y.cps.toList < z.cps.toList) = decide (ρ y < ρ z)) (r : Value → Int) (hr : ∀ v ∈ vs, ∀ y i, PairAt s.heap v y i → r v = ρ y) (Q : SortKind → Shared → Prop)
    (h : ∀ κ, TS.Cmp prog w A s κ (pairsOf vs) r → Q κ s) : wpAny (model prog w) A (keyKind' vs.toArray) Q E s := by
  obtain ⟨fs, k, hl, hi⟩ := firstsP vs x
  refine PySem.W.kat_kind (T := Value.type "str") k (by omega) (fun f hf => ?_) rfl (h _ ?_)
  · obtain ⟨y, t, rfl⟩ := hi f hf
    exact PySem.W.Looks.of_pure rfl
  · intro p q hp hq Q' E' hQ
    rw [pairsOf_toList] at hp hq
    have mp := (mem_zip_self hp).2
    have mq := (mem_zip_self hq).2
    obtain ⟨y, i, py⟩ := x _ mp
    obtain ⟨z, j, pz⟩ := x _ mq
    have ep := hr _ mp _ _ py
    have eq := hr _ mq _ _ pz
    have hq2 := hρ _ mp _ mq _ _ _ _ py pz
    have hQ' : Q' (decide (y.cps.toList < z.cps.toList)) s := by
      rw [hq2]
      have hQ2 : Q' (decide (r p.1 < r q.1)) s := hQ
      rw [ep, eq] at hQ2
      exact hQ2
    have same : y = z → i = j := fun e => by subst e; exact inj _ mp _ mq _ _ _ py pz
    obtain ⟨a, t, u, o, n, e1, ho, hc, hd⟩ := py
    obtain ⟨a', t', u', o', n', e2, ho', hc', hd'⟩ := pz
    rw [e1, e2]
    refine PySem.W.kat_lt ho hd ho' hd' ?_
    show PySem.W.KatLex prog w A _ false Q' [(Value.str y t, Value.str z t'), (Value.int i u, Value.int j u')] 0 s
    refine PySem.W.kat_cons (wpAny_eqBool_str ?_)
    by_cases e : y = z
    · rw [decide_eq_true e]
      refine PySem.W.kat_yes (PySem.W.kat_cons (wpAny_eqBool_int ?_))
      rw [same e, beq_self_eq_true]
      refine PySem.W.kat_yes (PySem.W.kat_nil ?_)
      have irr : decide (y.cps.toList < z.cps.toList) = false := by
        rw [e]
        exact decide_eq_false (List.lt_irrefl _)
      rw [irr] at hQ'
      exact hQ'
    · rw [decide_eq_false e]
      exact PySem.W.kat_no (oneLt_any_str hQ')
theorem sort_pairs {a : Addr} {vs : List Value} {n : Nat} {ρ : Str → Int} {P : PySem.Fin → Shared → Prop} (ho : s.heap.get? a = some (seqObj "list" vs.toArray n)) (h64 : vs.length < 64) (x : ∀ v ∈ vs, ∃ y i, PairAt s.heap v y i)
    (inj : ∀ v ∈ vs, ∀ u ∈ vs, ∀ y i j, PairAt s.heap v y i → PairAt s.heap u y j → i = j)
    (hρ : ∀ v ∈ vs, ∀ u ∈ vs, ∀ y z i j, PairAt s.heap v y i → PairAt s.heap u z j → decide (y.cps.toList < z.cps.toList) = decide (ρ y < ρ z)) (r : Value → Int) (hr : ∀ v ∈ vs, ∀ y i, PairAt s.heap v y i → r v = ρ y)
    (h : ∀ out : Array Value, out.toList.Perm vs → out.toList.Pairwise (fun u v => r u ≤ r v) → P (.done (.ret .none)) { s with heap := sortedHeap s.heap a vs out }) :
    wpAny (model prog w) A (Builtin.«list.sort» ⟨[.ref a], []⟩) P E s := by
  have keep : ∀ b o, s.heap.get? b = some o → o.cls = .type "tuple" → (TS.midHeap s.heap a vs).get? b = some o := fun b o e hc => by
    refine TS.midHeap_old ?_ e
    rintro rfl
    rw [ho] at e
    have e' : seqObj "list" vs.toArray n = o := Option.some.inj e
    rw [← e'] at hc
    have c' : Value.type "list" = Value.type "tuple" := hc
    injection c' with c''
    exact absurd c'' (by decide)
  have back : ∀ v ∈ vs, ∀ y i, PairAt (TS.midHeap s.heap a vs) v y i → PairAt s.heap v y i := fun v hv y i p => by
    obtain ⟨y0, i0, p0⟩ := x v hv
    have p1 := p0.keeps keep
    obtain ⟨b, t, u, o, n1, rfl, h1, h2, h3⟩ := p
    obtain ⟨b', t', u', o', n1', eb, h1', h2', h3'⟩ := p1
    cases eb
    rw [h1] at h1'
    cases h1'
    rw [h3] at h3'
    injection h3' with e1 e2
    have e3 := congrArg (fun z : Array Value => z.toList) e1
    simp at e3
    obtain ⟨⟨ey, _⟩, ei, _⟩ := e3
    subst ey
    subst ei
    exact p0
  refine SK.plain_sort (r := r) ho h64 (fun h2 Q hQ => ?_) fun ps out h1 h2 h3 => ?_
  · exact kind_pairs (s := { s with heap := TS.midHeap s.heap a vs }) (ρ := ρ) h2 (fun v hv => by obtain ⟨y, i, p⟩ := x v hv; exact ⟨y, i, p.keeps keep⟩) (fun v hv u hu y i j p q => inj v hv u hu y i j (back v hv _ _ p) (back u hu _ _ q))
      (fun v hv u hu y z i j p q => hρ v hv u hu y z i j (back v hv _ _ p) (back u hu _ _ q)) r (fun v hv y i p => hr v hv y i (back v hv _ _ p)) Q hQ
  · obtain ⟨p, o⟩ := TS.out_rank h1 h2 h3
    exact h out p o
theorem sorted_pairs {l : Addr} {vs : List Value} {ρ : Str → Int} {Q : Value → Shared → Prop} (hl : s.heap.IsList l vs.toArray) (h64 : vs.length < 64) (x : ∀ v ∈ vs, ∃ y i, PairAt s.heap v y i)
    (inj : ∀ v ∈ vs, ∀ u ∈ vs, ∀ y i j, PairAt s.heap v y i → PairAt s.heap u y j → i = j)
    (hρ : ∀ v ∈ vs, ∀ u ∈ vs, ∀ y z i j, PairAt s.heap v y i → PairAt s.heap u z j → decide (y.cps.toList < z.cps.toList) = decide (ρ y < ρ z))
    (h : ∀ out : Array Value, out.toList.Perm vs → out.toList.Pairwise (fun u v => ρ (nmAt s.heap u) ≤ ρ (nmAt s.heap v)) → Q (.ref (s.heap.objs.size + 1)) { s with heap := sortedAll s.heap vs out }) :
    wpAny (model prog w) A (call (.builtin "sorted") [.ref l]) Q E s := by
  refine Calls.call_function_entry kind_sorted plain_sorted entry_sorted (args_sorted1 _) ?_
  unfold Builtin.«sorted»
  refine wpAny_bind (m := checkCount "sorted" 1 1 _) (wpAny_pure ?_)
  refine wpAny_bind (collect_list hl ?_ (by rw [sizeLine_eq]; omega))
  refine wpAny_bind (wpAny_newList ?_ (by rw [sizeLine_eq]; omega))
  have hsz : ((s.heap.push (seqObj "list" #[] 0)).update s.heap.objs.size (Obj.mapSeq (· ++ vs.toArray))).objs.size = s.heap.objs.size + 1 := by
    rw [Heap.size_update, size_push']
  have hoL : (((s.heap.push (seqObj "list" #[] 0)).update s.heap.objs.size (Obj.mapSeq (· ++ vs.toArray))).push (seqObj "list" vs.toArray 0)).get? (s.heap.objs.size + 1) = some (seqObj "list" vs.toArray 0) := by
    rw [← hsz]; exact Heap.get?_push_size _ rfl
  have keepA : ∀ b o, s.heap.get? b = some o → (((s.heap.push (seqObj "list" #[] 0)).update s.heap.objs.size (Obj.mapSeq (· ++ vs.toArray))).push (seqObj "list" vs.toArray 0)).get? b = some o := fun b o q => by
    have hlt : b < s.heap.objs.size := Heap.lt_size q
    rw [Heap.get?_push_ne _ _ _ (by rw [hsz]; exact Nat.ne_of_lt (Nat.lt_succ_of_lt hlt)), Heap.get?_update_ne _ _ _ _ (Nat.ne_of_lt hlt), Heap.get?_push_ne _ _ _ (Nat.ne_of_lt hlt)]
    exact q
  have keep : ∀ b o, s.heap.get? b = some o → o.cls = .type "tuple" → (((s.heap.push (seqObj "list" #[] 0)).update s.heap.objs.size (Obj.mapSeq (· ++ vs.toArray))).push (seqObj "list" vs.toArray 0)).get? b = some o := fun b o q _ => keepA b o q
  show wpAny _ _ _ _ _ { s with heap := ((s.heap.push (seqObj "list" #[] 0)).update s.heap.objs.size (Obj.mapSeq (· ++ vs.toArray))).push (seqObj "list" vs.toArray 0) }
  rw [hsz]
  generalize hh : ((s.heap.push (seqObj "list" #[] 0)).update s.heap.objs.size (Obj.mapSeq (· ++ vs.toArray))).push (seqObj "list" vs.toArray 0) = h2 at hoL keep ⊢
  have back : ∀ v ∈ vs, ∀ y i, PairAt h2 v y i → PairAt s.heap v y i := fun v hv y i p => by
    obtain ⟨y0, i0, p0⟩ := x v hv
    have p1 := p0.keeps keep
    obtain ⟨b, t, u, o, n1, rfl, h1, h2, h3⟩ := p
    obtain ⟨b', t', u', o', n1', eb, h1', h2', h3'⟩ := p1
    cases eb
    rw [h1] at h1'
    cases h1'
    rw [h3] at h3'
    injection h3' with e1 e2
    have e3 := congrArg (fun z : Array Value => z.toList) e1
    simp at e3
    obtain ⟨⟨ey, _⟩, ei, _⟩ := e3
    subst ey
    subst ei
    exact p0
  refine wpAny_bind (wpAny_holding (wpAny_call_entry slot_list_sort ⟨_, hoL, rfl⟩ entry_list_sort (sort_pairs (s := { s with heap := h2 }) (ρ := ρ) hoL h64 (fun v hv => by obtain ⟨y, i, p⟩ := x v hv; exact ⟨y, i, p.keeps keep⟩)
    (fun v hv u hu y i j p q => inj v hv u hu y i j (back v hv _ _ p) (back u hu _ _ q)) (fun v hv u hu y z i j p q => hρ v hv u hu y z i j (back v hv _ _ p) (back u hu _ _ q)) (fun v => ρ (nmAt s.heap v)) (fun v hv y i p => ?_) fun out a1 a2 => ⟨_, rfl, ?_⟩) (args_list_sort _)))
  · show ρ (nmAt s.heap v) = ρ y
    rw [(back v hv _ _ p).nm]
  · subst hh
    exact wpAny_pure ⟨_, rfl, h out a1 a2⟩
end
/-! the rank of a name among names -/
def rankS (l : List Str) (y : Str) : Int := ((l.filter fun x => decide (ltS x y)).length : Nat)
theorem filt_le {l : List Str} {y z : Str} (h : ∀ x, ltS x y → ltS x z) : (l.filter fun x => decide (ltS x y)).length ≤ (l.filter fun x => decide (ltS x z)).length := by
  induction l with
  | nil => exact Nat.le_refl _
  | cons x r ih =>
    rw [List.filter_cons, List.filter_cons]
    by_cases a : ltS x y
    · rw [if_pos (decide_eq_true a), if_pos (decide_eq_true (h x a))]; simp; exact ih
    · rw [if_neg (by simpa using a)]
      split
      · simp; omega
      · exact ih
theorem rank_lt {l : List Str} {y z : Str} (h : ltS y z) (hy : y ∈ l) : rankS l y < rankS l z := by
  have key : ∀ l : List Str, y ∈ l → (l.filter fun x => decide (ltS x y)).length < (l.filter fun x => decide (ltS x z)).length := by
    intro l
    induction l with
    | nil => intro hy; cases hy
    | cons x r ih =>
      intro hy
      rw [List.filter_cons, List.filter_cons]
      rcases List.mem_cons.mp hy with e | hy
      · rw [← e, if_neg (by simpa using ltS_irrefl y), if_pos (decide_eq_true h)]
        have := filt_le (l := r) (y := y) (z := z) fun x hx => ltS_trans hx h
        simp; omega
      · have := ih hy
        by_cases a : ltS x y
        · rw [if_pos (decide_eq_true a), if_pos (decide_eq_true (ltS_trans a h))]; simp; exact this
        · rw [if_neg (by simpa using a)]
          split
          · simp; omega
          · exact this
  have := key l hy
  unfold rankS
  omega
theorem rank_iff {l : List Str} {y z : Str} (hy : y ∈ l) (hz : z ∈ l) : decide (y.cps.toList < z.cps.toList) = decide (rankS l y < rankS l z) := by
  refine decide_eq_decide.mpr ⟨fun h => rank_lt h hy, fun h => ?_⟩
  rcases ltS_tri y z with a | a | a
  · exact a
  · subst a; omega
  · have := rank_lt a hz; omega
theorem rank_le {l : List Str} {y z : Str} (hy : y ∈ l) (hz : z ∈ l) (h : rankS l y ≤ rankS l z) : y = z ∨ ltS y z := by
  rcases ltS_tri y z with a | a | a
  · exact .inr a
  · exact .inl a
  · have := rank_lt a hz; omega
theorem pairs_perm {K : PySem.W.Frag} {H : Hp} {ys xs : List V} (h : ys.Perm xs) : ∀ {ps : Bag}, DpAll K H xs (ps.map pairD) → ∃ qs : Bag, qs.Perm ps ∧ DpAll K H ys (qs.map pairD) := by
  induction h with
  | nil => intro ps hd; cases ps with
    | nil => exact ⟨[], .nil, .nil⟩
    | cons p r => cases hd
  | cons x _ ih =>
    intro ps hd
    cases ps with
    | nil => cases hd
    | cons p r =>
      cases hd with
      | cons h1 h2 =>
        obtain ⟨qs, a, b⟩ := ih h2
        exact ⟨p :: qs, a.cons p, .cons h1 b⟩
  | swap x y l =>
    intro ps hd
    cases ps with
    | nil => cases hd
    | cons p r =>
      cases r with
      | nil => cases hd with | cons h1 h2 => cases h2
      | cons q r =>
        cases hd with
        | cons h1 h2 =>
          cases h2 with
          | cons h3 h4 => exact ⟨q :: p :: r, .swap p q r, .cons h3 (.cons h1 h4)⟩
  | trans _ _ i1 i2 =>
    intro ps hd
    obtain ⟨qs, a, b⟩ := i2 hd
    obtain ⟨rs, c, d⟩ := i1 b
    exact ⟨rs, c.trans a, d⟩
def rSortedB (K : PySem.W.Frag) : List V → Hp → VK → Prop := fun vs H Q => ∃ (a : Addr) (xs : List V) (ps : Bag), vs = [V.ref a] ∧ SqL K H a xs ∧ DpAll K H xs (ps.map pairD) ∧ (keys ps).Nodup ∧ ps.length < 64 ∧
  ∀ (ys : List V) (qs : Bag) (p : Addr), qs.Perm ps → (qs.Pairwise fun a b => ltS a.1 b.1) → DpAll K H ys (qs.map pairD) → H p = none → Q (.ref p) (upd H p (.lst ys))
section
variable {X : Cx}
theorem pair_raw {pins : List (Addr × Obj)} {σ : L2.St} {H : Hp} {s : Shared} {t : Addr} {y : Str} {i : Int} (I : Inv X pins σ H s) (h : SqT X.K H t [.str y, .int i]) : PairAt s.heap (.ref t) y i := by
  obtain ⟨its, rv, ⟨o, ho, hc, n, hd⟩, _⟩ := I.tuple h
  cases rv with
  | cons r1 r =>
    cases r with
    | cons r2 r3 =>
      cases r3
      obtain ⟨a, rfl⟩ := r1
      obtain ⟨b, rfl⟩ := r2
      exact ⟨t, a, b, o, n, rfl, ho, hc, hd⟩
theorem PairAt.inj {h : Heap} {v : Value} {y z : Str} {i j : Int} (a : PairAt h v y i) (b : PairAt h v z j) : y = z ∧ i = j := by
  obtain ⟨b, t, u, o, n1, rfl, h1, h2, h3⟩ := a
  obtain ⟨b', t', u', o', n1', eb, h1', h2', h3'⟩ := b
  cases eb
  rw [h1] at h1'
  cases h1'
  rw [h3] at h3'
  injection h3' with e1 e2
  have e3 := congrArg (fun z : Array Value => z.toList) e1
  simp at e3
  obtain ⟨⟨ey, _⟩, ei, _⟩ := e3
  exact ⟨ey, ei⟩
theorem raw_all {pins : List (Addr × Obj)} {σ : L2.St} {H : Hp} {s : Shared} (I : Inv X pins σ H s) : ∀ {xs : List V} {ps : Bag} {its : List Value}, DpAll X.K H xs (ps.map pairD) → Vals xs its → ∀ v ∈ its, ∃ p, p ∈ ps ∧ PairAt s.heap v p.1 p.2 ∧ ∃ t, v = .ref t
  | [], [], _, _, r, v, hv => by cases r; cases hv
  | x :: xs, p :: ps, _, hd, r, v, hv => by
    cases hd with
    | cons h1 h2 =>
      cases r with
      | cons r1 r2 =>
        obtain ⟨t, rfl, ht⟩ := pair_inv h1
        rcases List.mem_cons.mp hv with e | hv
        · have : v = .ref t := by rw [e]; exact r1
          subst this
          exact ⟨p, List.mem_cons_self, pair_raw I ht, t, rfl⟩
        · obtain ⟨q, a, b⟩ := raw_all I h2 r2 v hv
          exact ⟨q, List.mem_cons_of_mem _ a, b⟩
theorem raw_names {pins : List (Addr × Obj)} {σ : L2.St} {H : Hp} {s : Shared} (I : Inv X pins σ H s) : ∀ {xs : List V} {ps : Bag} {its : List Value}, DpAll X.K H xs (ps.map pairD) → Vals xs its → its.map (nmAt s.heap) = ps.map (·.1)
  | [], [], _, _, r => by cases r; rfl
  | x :: xs, p :: ps, _, hd, r => by
    cases hd with
    | cons h1 h2 =>
      cases r with
      | cons r1 r2 =>
        obtain ⟨t, rfl, ht⟩ := pair_inv h1
        rw [List.map_cons, List.map_cons, raw_names I h2 r2]
        congr 1
        rename_i u us
        have : u = .ref t := r1
        rw [this, (pair_raw I ht).nm]
theorem cr_sortedB : CallR X (.builtin "sorted") (rSortedB X.K) := by
  intro pins s σ H vs us Q I r h
  obtain ⟨a, xs, ps, rfl, hs, hd, nd, h64, q⟩ := h
  obtain ⟨its, rv, hl, hz⟩ := I.list hs
  rw [Vals.ref1 r]
  have hxl : xs.length = ps.length := by rw [dps_len hd, List.length_map]
  have hil : its.length = ps.length := by rw [← rv.length]; exact hxl
  have refs : ∀ x ∈ xs, ∃ t, x = V.ref t := fun x hx => by
    obtain ⟨i, hi, e⟩ := List.mem_iff_getElem.mp hx
    obtain ⟨p, b, e1, e2, _⟩ := bag_get hd (List.getElem?_eq_getElem hi)
    exact ⟨b, by rw [← e, e2]⟩
  obtain ⟨e1, e2⟩ := bkV_refs rv refs
  refine sorted_pairs (ρ := rankS (keys ps)) hl.isList (by omega) (fun v hv => ?_) (fun v hv u hu y i j p q => ?_) (fun v hv u hu y z i j p q => ?_) fun out h1 h2 => ?_
  · obtain ⟨p, _, h, _⟩ := raw_all I hd rv v hv
    exact ⟨p.1, p.2, h⟩
  · obtain ⟨p1, m1, h1, _⟩ := raw_all I hd rv v hv
    obtain ⟨p2, m2, h2, _⟩ := raw_all I hd rv u hu
    obtain ⟨a1, a2⟩ := p.inj h1
    obtain ⟨b1, b2⟩ := q.inj h2
    rw [a2, b2, ← getT_mem nd m1, ← getT_mem nd m2, ← a1, ← b1]
  · obtain ⟨p1, m1, h1, _⟩ := raw_all I hd rv v hv
    obtain ⟨p2, m2, h2, _⟩ := raw_all I hd rv u hu
    obtain ⟨a1, _⟩ := p.inj h1
    obtain ⟨b1, _⟩ := q.inj h2
    rw [a1, b1]
    exact rank_iff (List.mem_map.mpr ⟨p1, m1, rfl⟩) (List.mem_map.mpr ⟨p2, m2, rfl⟩)
  · obtain ⟨ep, he'⟩ := PyProof.Rows.sortedAll_at s.heap its out
    have h3 : ∀ u ∈ out.toList, ∃ a, u = Value.ref a := fun u hu => e2 u (h1.mem_iff.mp hu)
    have hp : (out.toList.map bkV).Perm xs := by
      rw [e1]
      exact h1.map bkV
    have hlen : (out.toList.map bkV).length ≤ sizeLine := by
      rw [hp.length_eq]
      exact hz
    obtain ⟨qs, pq, dq⟩ := pairs_perm hp hd
    have nm := raw_names I dq (bkV_vals h3)
    have asc : qs.Pairwise fun a b => ltS a.1 b.1 := by
      have pw : (out.toList.map (nmAt s.heap)).Pairwise fun a b => rankS (keys ps) a ≤ rankS (keys ps) b := by rw [List.pairwise_map]; exact h2
      rw [nm, List.pairwise_map] at pw
      have ndq : (keys qs).Nodup := (pq.map _).nodup_iff.mpr nd
      have ne : qs.Pairwise fun a b => a.1 ≠ b.1 := by
        unfold keys List.Nodup at ndq
        rw [List.pairwise_map] at ndq
        exact ndq
      refine (pw.and ne).imp_of_mem fun {a b} ha hb h => ?_
      rcases rank_le (l := keys ps) (List.mem_map.mpr ⟨a, pq.mem_iff.mp ha, rfl⟩) (List.mem_map.mpr ⟨b, pq.mem_iff.mp hb, rfl⟩) h.1 with z | z
      · exact absurd z h.2
      · exact z
    exact ⟨.ref _, upd H (s.heap.objs.size + 1) (.lst (out.toList.map bkV)), I.laid (t' := s.toks) (fun _ _ => PyProof.Rows.sortedAll_old) (Nat.le_succ _) ⟨hlen, out.toList, ep, bkV_vals h3, he'⟩, rfl, q _ qs _ pq asc dq (I.hok.fresh (Nat.le_succ _))⟩
theorem k_sortedB (K : PySem.W.Frag) (h : X.K = K := by rfl) : CallR X (.builtin "sorted") (rSortedB K) := by subst h; exact cr_sortedB
end
theorem w_sortedB {K : PySem.W.Frag} {H : Hp} {Q : VK} {a : Addr} {xs : List V} {ps : Bag} (hs : SqL K H a xs) (hd : DpAll K H xs (ps.map pairD)) (nd : (keys ps).Nodup) (hl : ps.length < 64)
    (h : ∀ (ys : List V) (qs : Bag) (p : Addr), qs.Perm ps → (qs.Pairwise fun a b => ltS a.1 b.1) → DpAll K H ys (qs.map pairD) → H p = none → Q (.ref p) (upd H p (.lst ys))) : rSortedB K [.ref a] H Q := ⟨a, xs, ps, rfl, hs, hd, nd, hl, h⟩
end TP

namespace TP
open PySem PySem.Spec PyProof.Rows L2
/-! ### a list taken apart -/
/-! ### data by names -/
/-- a table in the order of its names, zeros too -/
def tabF (t : Bag) (ys : List Str) : Bag := ys.map fun y => (y, getT t y)
theorem mul_ediv (d c : Int) (h : 0 < c) : d * c / c = d := Int.mul_ediv_cancel d (by omega)
theorem mul_emod (d c : Int) : d * c % c = 0 := Int.mul_emod_left d c
/-! ### true counts that fit -/
structure FitV (c : Int) (ps : Bag) (d : Int) (fs : Bag) : Prop where
  ok : BagOk fs
  len : fs.length ≤ 12
  low : ∀ n, getT ps n ≤ getT fs n
  hi : ∀ n, getT fs n ≤ getT ps n + d
  sum : sumC fs = sumC ps + d * (c + 1)
end TP

namespace TP
open PySem PySem.Spec PyProof.Rows L2
/-! ### == and != of an object and any value -/
section
variable {prog : Program} {w : World} {A : Around} {E : Value → Shared → Prop} {s : Shared} {K : PySem.W.Frag} {x C f : Addr} {ox : Obj} {od : Option Obj} {b tb : Value}
end
def rCmpO (K : PySem.W.Frag) (neg : Bool) (C : Addr) (sp : Sp) (js : List Nat) (E : XK) : R2 := fun x y H Q => ∃ a dx fl t, x = .ref a ∧ H a = some (.ins C dx fl) ∧ TyX K H y t ∧ (t = .ref C ∨ PySem.W.kitOne K t (.ref C) = some false) ∧
  sp (pick js ([x, y] ++ [] ++ [])) H (fun v H' => ∃ c : Bool, v = .bl c ∧ Q (.bl (if neg then !c else c)) H') E
section
variable {X : Cx} {CX : CXT} {k n : Nat} {C q : Str} {st : Stmt} {ps : List Str} {js : List Nat} {sp : Sp} {E : XK} {fs : List Str} (K : PySem.W.Frag)
end
section
variable {K : PySem.W.Frag} {mg : Str → Option Value} {H : Hp} {Q : VK} {v w : V} {c d : Int} {ps qs : Bag} {sp : Sp} {js : List Nat} {E : XK} {neg : Bool}
end
end TP

namespace TP
open PySem PySem.Spec PyProof.Rows L2
/-! ### the shown text of a summary's attributes is one to one -/
section
open TL
def encP (p : Str × Int) : List Nat := [40, 39] ++ (tl p.1 ++ 39 :: ([44, 32] ++ (numL p.2.toNat ++ 41 :: [])))
def contP : Bag → List Nat
  | [] => []
  | p :: r => [44, 32] ++ (encP p ++ contP r)
def bodyP : Bag → List Nat
  | [] => []
  | p :: r => encP p ++ contP r
def tailP (n : Nat) : List Nat := if n = 1 then [44, 41] else [41]
end
/-! ### all that a summary tells of itself, shown -/
def okS (x : Str) : Prop := ∀ c ∈ x.cps.toList, c < 16 ^ 8
def rText (c : Int) (ps : Bag) : Str := ("Summary(" : Str) ++ intS c ++ (", '" : Str) ++ cText ps ++ ("')" : Str)
def shA (c : Int) (ps : Bag) : List PyData := [.int c, bagD ps, .int (ps.length : Nat), .bool (((ps.length : Nat) : Int) != 0), .int (sumC ps), .bool (decide ((ps.length : Int) = c)), .int (getT ps "a")]
def shB (c : Int) (ps : Bag) : List PyData := [.str (cText ps), .str (rText c ps), .bool true]
def shD (c : Int) (ps : Bag) : PyData := .list (shA c ps ++ shB c ps)
theorem sum_nonneg {ps : Bag} (h : ∀ p ∈ ps, 1 ≤ p.2) : 0 ≤ sumC ps := by
  induction ps with
  | nil => exact Int.le_refl _
  | cons p r ih =>
    have := ih fun q hq => h q (List.mem_cons_of_mem _ hq)
    have := h p List.mem_cons_self
    rw [sumC_cons]; omega
theorem getT_le {ps : Bag} (h : ∀ p ∈ ps, 1 ≤ p.2) (n : Str) : 0 ≤ getT ps n ∧ getT ps n ≤ sumC ps := by
  induction ps with
  | nil => exact ⟨Int.le_refl _, Int.le_refl _⟩
  | cons p r ih =>
    have := ih fun q hq => h q (List.mem_cons_of_mem _ hq)
    have := h p List.mem_cons_self
    have := sum_nonneg fun q hq => h q (List.mem_cons_of_mem _ hq)
    rw [sumC_cons, getT_cons]
    split <;> omega
/-! ### lists of summaries -/
theorem sum_t {K : PySem.W.Frag} {H H' : Hp} {v : V} {c : Int} {ps : Bag} (s : SameT H H') (h : SumO K H v c ps) : SumO K H' v c ps := by
  obtain ⟨a, dx, b, rfl, h1, h2⟩ := h
  exact ⟨a, dx, b, rfl, s _ _ h1 (fun _ => nofun) (fun _ => nofun), dp_flat s h2 (flat_bag ps)⟩
def Sums (K : PySem.W.Frag) (H : Hp) (lo hi B : Int) (ms : List V) : Prop := ∀ y ∈ ms, ∃ d qs, SumO K H y d qs ∧ SumV d qs ∧ lo ≤ d ∧ d ≤ hi ∧ sumC qs ≤ B
section
variable {K : PySem.W.Frag} {H H' : Hp} {lo hi B : Int} {ms : List V}
theorem Sums.same (s : Same H H') (h : Sums K H lo hi B ms) : Sums K H' lo hi B ms := fun y hy => by
  obtain ⟨d, qs, h1, h2⟩ := h y hy
  exact ⟨d, qs, sum_same s h1, h2⟩
theorem Sums.t (s : SameT H H') (h : Sums K H lo hi B ms) : Sums K H' lo hi B ms := fun y hy => by
  obtain ⟨d, qs, h1, h2⟩ := h y hy
  exact ⟨d, qs, sum_t s h1, h2⟩
theorem Sums.snoc {v : V} {d : Int} {qs : Bag} (h : Sums K H lo hi B ms) (ho : SumO K H v d qs) (hv : SumV d qs) (h1 : lo ≤ d) (h2 : d ≤ hi) (h3 : sumC qs ≤ B) : Sums K H lo hi B (ms ++ [v]) := fun y hy => by
  rcases List.mem_append.mp hy with h' | h'
  · exact h y h'
  · rw [List.mem_singleton.mp h']; exact ⟨d, qs, ho, hv, h1, h2, h3⟩
theorem Sums.app {ns : List V} (h : Sums K H lo hi B ms) (h' : Sums K H lo hi B ns) : Sums K H lo hi B (ms ++ ns) := fun y hy => by
  rcases List.mem_append.mp hy with z | z
  · exact h y z
  · exact h' y z
theorem Sums.le {lo' hi' B' : Int} (h : Sums K H lo hi B ms) (h1 : lo' ≤ lo) (h2 : hi ≤ hi') (h3 : B ≤ B') : Sums K H lo' hi' B' ms := fun y hy => by
  obtain ⟨d, qs, a1, a2, a3, a4, a5⟩ := h y hy
  exact ⟨d, qs, a1, a2, by omega, by omega, by omega⟩
end
/-! ### values that are no objects of an own class -/
def Plain (K : PySem.W.Frag) (H : Hp) (z : V) : Prop := (∃ e, Dp K H z e) ∨ (∃ a xs, z = .ref a ∧ H a = some (.lst xs)) ∨ ∃ a kvs, z = .ref a ∧ H a = some (.dK kvs)
theorem Plain.same {K : PySem.W.Frag} {H H' : Hp} {z : V} (s : Same H H') (h : Plain K H z) : Plain K H' z := by
  rcases h with ⟨e, h⟩ | ⟨a, xs, rfl, h⟩ | ⟨a, xs, rfl, h⟩
  · exact .inl ⟨e, dp_same s h⟩
  · exact .inr (.inl ⟨a, xs, rfl, s _ _ h⟩)
  · exact .inr (.inr ⟨a, xs, rfl, s _ _ h⟩)
theorem Plain.ty {K : PySem.W.Frag} {H : Hp} {z : V} (h : Plain K H z) : ∃ T, T ∈ ["NoneType", "bool", "int", "str", "list", "tuple", "dict"] ∧ TyX K H z (.type T) := by
  rcases h with ⟨e, h⟩ | ⟨a, xs, rfl, h⟩ | ⟨a, xs, rfl, h⟩
  · exact ⟨_, by cases e <;> simp [tyD], ty_dp h⟩
  · exact ⟨"list", by simp, .base (.lst h)⟩
  · exact ⟨"dict", by simp, .base (.dK h)⟩
end TP

namespace TP
open PySem PySem.Spec PyProof.Rows L2
/-! ### slots (the class Replacing) -/
abbrev repF : List Str := ["slots", "counts", "__bool__"]
structure RepV (c : Int) (ps : Bag) : Prop where
  c2 : 2 ≤ c
  c9 : c ≤ 9
  ok : BagOk ps
  len : (ps.length : Int) ≤ c
def RepO (K : PySem.W.Frag) (H : Hp) (v : V) (c : Int) (ps : Bag) : Prop := ∃ a dx b, v = .ref a ∧ H a = some (.ins (He.ga K "Replacing") dx [("slots", .int c), ("counts", b)]) ∧ Dp K H b (bagD ps)
def spInitR (K : PySem.W.Frag) : Sp := fun vs H Q _ => ∃ (x dx : Addr) (c : Int) (ps : Bag) (b : V), vs = [.ref x, .int c, b] ∧ H x = some (.ins (He.ga K "Replacing") dx []) ∧ Dp K H b (bagD ps) ∧ RepV c ps ∧
  ∀ H', SameB x H H' → H' x = some (.ins (He.ga K "Replacing") dx [("slots", .int c), ("counts", b)]) → Q .non H'
section
variable {K : PySem.W.Frag} {mg : Str → Option Value} {H H' : Hp} {Q : VK} {v : V} {c : Int} {ps : Bag}
end
section
variable {K : PySem.W.Frag} {mg : Str → Option Value} {H H' : Hp} {Q : VK} {v w : V} {c d : Int} {ps qs : Bag} {sp : Sp} {js : List Nat} {E : XK} {neg : Bool}
end
/-! ### what slots tell of themselves -/
def rTextR (c : Int) (ps : Bag) : Str := ("Replacing(" : Str) ++ intS c ++ (", '" : Str) ++ cText ps ++ ("')" : Str)
def leastR (c : Int) (ps : Bag) : Int := if (ps.length : Int) = c then minV ps else 0
def tellD (c : Int) (ps : Bag) : PyData := .list [.int c, bagD ps, .int (leastR c ps), .int (ps.length : Nat), .bool (!decide (ps = [])), .str (cText ps), .str (rTextR c ps)]
/-! ### pairs of a number of slots and counts -/
def PrO (K : PySem.W.Frag) (H : Hp) (y : V) : Prop := ∃ t w d qs, y = .ref t ∧ SqT K H t [.int d, w] ∧ Dp K H w (bagD qs) ∧ 2 ≤ d ∧ d ≤ 9 ∧ BagOk qs ∧ BagS qs ∧ qs.length ≤ 100
theorem PrO.same {K : PySem.W.Frag} {H H' : Hp} {y : V} (s : Same H H') (h : PrO K H y) : PrO K H' y := by
  obtain ⟨t, w, d, qs, e, h1, h2, h3⟩ := h
  exact ⟨t, w, d, qs, e, sqt_same s h1, dp_same s h2, h3⟩
theorem PrO.t {K : PySem.W.Frag} {H H' : Hp} {y : V} (s : SameT H H') (h : PrO K H y) : PrO K H' y := by
  obtain ⟨t, w, d, qs, e, h1, h2, h3⟩ := h
  exact ⟨t, w, d, qs, e, s.sqt h1, dp_flat s h2 (flat_bag qs), h3⟩
theorem BagOk.init {ps : Bag} (h : BagOk ps) : BagOk ps.dropLast := by rw [List.dropLast_eq_take]; exact h.take _
/-! ### a tuple times 0 or 1 -/
def rRepB (K : PySem.W.Frag) : R2 := fun x y H Q => ∃ l k xs, x = .ref l ∧ y = .int k ∧ SqT K H l xs ∧ xs ≠ [] ∧ ((k = 0 ∧ ∀ p, H p = none → Q (.ref p) (upd H p (.tup []))) ∨ (k = 1 ∧ Q (.ref l) H))
end TP

namespace TP
open PySem PySem.Spec PyProof.Rows L2
/-! ### {**a, **b} -/
section
variable {prog : Program} {w : World} {A : Around} {E : Value → Shared → Prop} {s : Shared}
theorem put_pairs {d : Addr} {kvs : List (Key × Value)} {k : Key} {key v : Value} {Q : Unit → Shared → Prop} (hkey : (mixKind prog w).is k key = true) (hm : s.heap.DictOf (mixKind prog w) d kvs)
    (hQ : ∀ h', h'.DictOf (mixKind prog w) d (stored kvs k v) → Heap.SameBut d s.heap h' → Q () { s with heap := h' }) (hsz : kvs.length ≤ sizeLine) :
    wpAny (model prog w) A (dictPut d ((mixKind prog w).hash k) key v) Q E s := by
  obtain ⟨o, es, ep, ho, hc, hd, hk, hp, hn⟩ := hm
  have hes : es.size ≤ sizeLine := by have e1 := hp.length; have e2 : es.toList.length = es.size := by simp
                                      omega
  unfold dictPut
  refine wpAny_bind (wpAny_dictFind_of hkey ho hd hk ?_)
  have hidx : (es.findIdx? fun e => (mixKind prog w).is k e.key) = kvs.findIdx? fun kv => decide (kv.1 = k) := by
    rw [← hp.findIdx k]; obtain ⟨l⟩ := es; simp
  cases hi : es.findIdx? fun e => (mixKind prog w).is k e.key with
  | some i =>
    refine wpAny_updateDict ho hd (hQ _ ⟨_, _, ep, Heap.get?_update_self _ ho (Obj.isFreed_of_dict (Obj.data_mapDict hd _)),
      hc.mapDict _, Obj.data_mapDict hd _, hk.modify _ _, ?_, ?_⟩ (Heap.SameBut.update ..))
    · rw [stored, if_pos (any_of_findIdx_some (hidx ▸ hi))]
      have hl : (es.toList.findIdx? fun e => (mixKind prog w).is k e.key) = some i := by rw [← hi]; obtain ⟨l⟩ := es; simp
      have := hp.modify hn hl v
      obtain ⟨l⟩ := es
      simpa using this
    · rw [stored, if_pos (any_of_findIdx_some (hidx ▸ hi)), keys_map_store]; exact hn
  | none =>
    have hnot : k ∉ kvs.map (·.1) := not_mem_of_findIdx_none (hidx ▸ hi)
    have hany : ¬ (kvs.any fun kv => decide (kv.1 = k)) = true := by
      rw [List.any_eq_true]; rintro ⟨kv, hkv, he⟩
      exact hnot (List.mem_map.mpr ⟨kv, hkv, of_decide_eq_true he⟩)
    refine wpAny_updateDictKeys (hz := hes) ho hd (hQ _ ⟨_, _, ep + 1, Heap.get?_update_self _ ho (Obj.isFreed_of_dict (Obj.data_mapDictKeys hd _)),
      hc.mapDictKeys _, Obj.data_mapDictKeys hd _, hk.push hkey _, ?_, ?_⟩ (Heap.SameBut.update ..))
    · rw [stored, if_neg hany]
      have := hp.append hkey ((mixKind prog w).hash k) v
      obtain ⟨l⟩ := es
      simpa using this
    · rw [stored, if_neg hany, List.map_append, List.nodup_append]
      refine ⟨hn, by simp, ?_⟩
      intro a ha b hb
      simp only [List.map_cons, List.map_nil, List.mem_singleton] at hb
      subst hb
      exact fun e => hnot (e ▸ ha)
theorem merge_map {d o : Addr} {kvs more : List (Key × Value)} {Q : Unit → Shared → Prop} (hdo : d ≠ o) (hoS : (o == sysModules) = false)
    (hd : s.heap.DictOf (mixKind prog w) d kvs) (ho : s.heap.DictOf (mixKind prog w) o more)
    (hQ : ∀ h', h'.DictOf (mixKind prog w) d (merged kvs more) → Heap.SameBut d s.heap h' → Q () { s with heap := h' })
    (hsz : kvs.length + more.length ≤ sizeLine) : wpAny (model prog w) A (mergeMapping d (.ref o) false) Q E s := by
  obtain ⟨od, esd, epd, hod, hcd, hdd, hkd, hpd, hnd⟩ := id hd
  obtain ⟨oo, eso, epo, hoo, hco, hdo', hko, hpo, hno⟩ := id ho
  have hlen : more.length = eso.size := by rw [← hpo.length]; simp
  have hty := ho.typeIs
  unfold mergeMapping
  refine wpAny_bind (wpAny_isInstance hty isSubtype_dict_dict ?_)
  simp only [if_true]
  refine wpAny_bind (wpAny_specialOf hty F.slot_dict_iter.lookup (wpAny_bind (wpAny_pure ?_)))
  simp only [beq_self_eq_true]
  have loop : wpAny (model prog w) A (do
      let l ← dictEntries o
      let epoch ← dictEpoch o
      forIn (List.range l.size) PUnit.unit fun i (_ : PUnit) => (do
          let l' ← dictEntries o
          match l'[i]? with
            | some e => do
              holding [e.key, e.val] (dictPut d e.hash e.key e.val)
              let ep' ← dictEpoch o
              if (ep' != epoch) = true then do
                  (unsupported "dict.changed-during-merge" : Sem PUnit)
                  pure (ForInStep.yield PUnit.unit)
                else pure (ForInStep.yield PUnit.unit)
            | _ => do
              (unsupported "dict.changed-during-merge" : Sem PUnit)
              pure (ForInStep.yield PUnit.unit) : Sem (ForInStep PUnit))
      pure ()) Q E s := by
    refine wpAny_bind (wpAny_dictEntries hoo hdo' ?_)
    refine wpAny_bind (wpAny_dictEpoch hoo hdo' ?_)
    refine wpAny_bind ?_
    rw [List.range_eq_range']
    refine wpAny_forIn_list _
      (fun rest _ s' => ∃ h' i, s' = { s with heap := h' } ∧ rest = List.range' i (eso.size - i) ∧ i ≤ eso.size ∧ h'.DictOf (mixKind prog w) d (merged kvs (more.take i)) ∧ h'.get? o = some oo ∧ Heap.SameBut d s.heap h')
      _ ?_ ?_ _ _ ⟨s.heap, 0, rfl, by simp, Nat.zero_le _, by simpa [merged] using hd, hoo, Heap.SameBut.refl _ _⟩
    · rintro x rest b s' ⟨h', i, rfl, hr, hi, hd', hoo', hs'⟩
      have hlt : i < eso.size := by
        rcases Nat.lt_or_ge i eso.size with h | h
        · exact h
        · rw [Nat.sub_eq_zero_of_le h] at hr; simp at hr
      obtain ⟨rfl, hrest⟩ : x = i ∧ rest = List.range' (i + 1) (eso.size - (i + 1)) := by
        have e : eso.size - i = (eso.size - (i + 1)) + 1 := by omega
        rw [e, List.range'_succ] at hr
        injection hr with h1 h2
        exact ⟨h1, h2⟩
      refine wpAny_bind (wpAny_dictEntries hoo' hdo' ?_)
      rw [Array.getElem?_eq_getElem hlt]
      obtain ⟨kv, hkv⟩ : ∃ kv, more[x]? = some kv := ⟨more[x]'(by rw [hlen]; exact hlt), List.getElem?_eq_getElem _⟩
      obtain ⟨k, v⟩ := kv
      obtain ⟨hkey, hval⟩ := hpo.get? (e := eso[x]) (by simp [hlt]) hkv
      obtain ⟨k', hkey', hhash⟩ := hko eso[x] (Array.getElem_mem hlt)
      obtain rfl : k' = k := (mixKind prog w).inj _ _ _ hkey' hkey
      show wpAny _ _ (holding [eso[x].key, eso[x].val] (dictPut d eso[x].hash eso[x].key eso[x].val) >>= _) _ _ _
      rw [hhash, hval]
      have hmx : (merged kvs (more.take x)).length ≤ sizeLine := by
        have e1 := merged_length_le kvs (more.take x)
        have e2 : (more.take x).length ≤ more.length := by rw [List.length_take]; omega
        omega
      refine wpAny_bind (wpAny_holding (put_pairs (hsz := hmx) hkey hd' fun h'' hd'' hs'' => ?_))
      have hoo'' : h''.get? o = some oo := (hs''.2 o (Ne.symm hdo)).trans hoo'
      refine wpAny_bind (wpAny_dictEpoch hoo'' hdo' ?_)
      rw [if_neg (by simp)]
      exact wpAny_pure ⟨h'', x + 1, rfl, hrest, hlt, by rw [merged_take_succ kvs more x (k', v) hkv]; exact hd'', hoo'', hs'.trans hs''⟩
    · rintro b s' ⟨h', i, rfl, hr, hi, hd', hoo', hs'⟩
      have hin : i = eso.size := by
        rcases Nat.lt_or_ge i eso.size with h | h
        · have e : eso.size - i = (eso.size - (i + 1)) + 1 := by omega
          rw [e, List.range'_succ] at hr; exact nomatch hr
        · exact Nat.le_antisymm hi h
      refine wpAny_pure (hQ h' ?_ hs')
      rw [hin, ← hlen, List.take_length] at hd'; exact hd'
  rw [if_neg (by rw [hoS]; exact Bool.false_ne_true)]
  refine wpAny_bind (wpAny_dictEntries hod hdd ?_)
  split
  · refine wpAny_bind (wpAny_dictEntries hoo hdo' ?_)
    refine wpAny_bind ?_
    rw [← Array.forIn_toList]
    refine wpAny_forIn_list _ (fun rest _ s' => s' = s ∧ ∀ e ∈ rest, ∃ k, (mixKind prog w).is k e.key = true) _ ?_ ?_ _ _ ⟨rfl, fun e he => ?_⟩
    · rintro e rest b s' ⟨rfl, hr⟩
      obtain ⟨k, hk⟩ := hr e List.mem_cons_self
      have hrest : ∀ e ∈ rest, ∃ k, (mixKind prog w).is k e.key = true := fun e he => hr e (List.mem_cons_of_mem _ he)
      rcases keyIs_shape hk with ⟨j, t, _, ek⟩ | ⟨x, t, _, ek⟩
      · simp only [ek]
        exact wpAny_pure ⟨rfl, hrest⟩
      · simp only [ek]
        exact wpAny_pure ⟨rfl, hrest⟩
    · rintro b s' ⟨rfl, _⟩
      exact loop
    · obtain ⟨k, hk, _⟩ := hko e (Array.mem_toList_iff.mp he)
      exact ⟨k, hk⟩
  · exact loop
end
theorem disp_two (a b : Sem Value) : dictDisplay [(none, a), (none, b)] = (do
    let d ← alloc { cls := .type "dict", data := .dict #[] }
    let m ← holding [.ref d] a
    (((holding [.ref d, m] (mergeMapping d m false)).onRaise fun x => do let _ ← holding [.ref d, m, x] (runValue (.builtin "proto.let_go" {}))).tryCatch fun e => do
        if ← isInstance e (.type "AttributeError") then
          rule "dict.display.not-a-mapping"; raiseError "TypeError" s!"'{← typeNameOf m}' object is not a mapping"
        throw e).onRaise fun x => do let _ ← holding [.ref d, x] (runValue (.builtin "proto.let_go" {}))
    let m2 ← holding [.ref d] b
    (((holding [.ref d, m2] (mergeMapping d m2 false)).onRaise fun x => do let _ ← holding [.ref d, m2, x] (runValue (.builtin "proto.let_go" {}))).tryCatch fun e => do
        if ← isInstance e (.type "AttributeError") then
          rule "dict.display.not-a-mapping"; raiseError "TypeError" s!"'{← typeNameOf m2}' object is not a mapping"
        throw e).onRaise fun x => do let _ ← holding [.ref d, x] (runValue (.builtin "proto.let_go" {}))
    pure (.ref d)) := by
  unfold dictDisplay
  simp [List.forIn_cons, List.forIn_nil]
/-- {**a, **b}: the new dict stands while the parts are read -/
def tDMrg (ta tb : TE) : TE := fun σ H Q => ∀ p, H p = none → ta σ (upd H p (.dK [])) fun x H1 => ∃ a kvs, x = .ref a ∧ a ≠ p ∧ Rd H1 a (.dK kvs) ∧ H1 p = some (.dK []) ∧
  tb σ (upd H1 p (.dK (mergeK [] kvs))) fun y H2 => ∃ b kvs2, y = .ref b ∧ b ≠ p ∧ Rd H2 b (.dK kvs2) ∧ H2 p = some (.dK (mergeK [] kvs)) ∧ kvs.length + kvs2.length ≤ 10000 ∧ Q (.ref p) (upd H2 p (.dK (mergeK (mergeK [] kvs) kvs2)))
theorem merge_step {X : Cx} {pins : List (Addr × Obj)} {σ : L2.St} {H : Hp} {s : Shared} {Q : Unit → Shared → Prop} {E : Value → Shared → Prop} {p a : Addr} {kvs more : List (Key × V)} (I : Inv X pins σ H s) (hp : H p = some (.dK kvs)) (ha : Rd H a (.dK more)) (ne : a ≠ p) (hz : kvs.length + more.length ≤ sizeLine)
    (h : ∀ s', Inv X pins σ (upd H p (.dK (mergeK kvs more))) s' → Q () s') : wpAny (model X.prog X.w) X.A (mergeMapping p (.ref a) false) Q E s := by
  obtain ⟨_, hd, vs, rv, dv⟩ := dk_of I.hok hp
  obtain ⟨_, lo, ws, rw', dw⟩ := dk_rd I.hok ha
  refine merge_map (Ne.symm ne) lo dv dw (fun h' d' hs => ?_) (by rw [← rv.length, ← rw'.length]; exact hz)
  have he : ∃ q, h'.get? p = some q := let ⟨q, _, _, hq, _⟩ := d'; ⟨q, hq⟩
  exact h _ (d_write (t' := s.toks) I (by rw [hp]; exact True.intro) hs he (dk_new (Nat.le_trans (length_mergeK more kvs) hz) hd (rw'.merge rv) d'))
theorem pe_dmrg {X : Cx} {e1 e2 : Expr} {ta tb : TE} {pos : Pos} (h1 : PE X e1 ta) (h2 : PE X e2 tb) : PE X (.Dict [none, none] [e1, e2] pos) (tDMrg ta tb) := by
  refine ⟨fun pins s σ H Q I q => ?_⟩
  have hn := I.hok.fresh (Nat.le_refl s.heap.objs.size)
  have I1 := I.laid (a := s.heap.objs.size) (o := .dK []) (h' := s.heap.push { cls := .type "dict", data := .dict #[] }) (t' := s.toks) (fun _ _ q => Heap.get?_push_of_some _ q) (Nat.le_refl _) (dk_empty s.heap I.big)
  rw [arm_eval_Dict]
  refine wpAny_bind (wpAny_standAt ?_)
  show wpAny _ _ (dictDisplay [(none, do let x ← eval e1 X.env; standAt pos; pure x), (none, do let x ← eval e2 X.env; standAt pos; pure x)]) _ _ _
  rw [disp_two]
  refine wpAny_bind (wpAny_alloc ?_)
  refine wpAny_bind (wpAny_holding (wpAny_bind (thn (h1.run pins _ σ _ _ I1 (q _ hn)) fun u s1 ⟨x, H1, I2, rx, a, kvs, ex, ne, hr, hp, q1⟩ => wpAny_bind (wpAny_standAt (wpAny_pure ?_)))))
  subst ex
  obtain rfl : u = Value.ref a := rx
  obtain ⟨zz, _⟩ := dk_rd I2.hok hr
  refine wpAny_bind (wpAny_onRaise (wpAny_tryCatch (wpAny_onRaise (wpAny_holding (merge_step I2 hp hr ne (by simpa using zz) fun s2 I3 => ?_)))))
  refine wpAny_bind (wpAny_holding (wpAny_bind (thn (h2.run pins _ σ _ _ I3 q1) fun u s3 ⟨y, H2, I4, ry, b, kvs2, ey, ne2, hr2, hp2, hz, q2⟩ => wpAny_bind (wpAny_standAt (wpAny_pure ?_)))))
  subst ey
  obtain rfl : u = Value.ref b := ry
  refine wpAny_bind (wpAny_onRaise (wpAny_tryCatch (wpAny_onRaise (wpAny_holding (merge_step I4 hp2 hr2 ne2 ?_ fun s4 I5 => ?_)))))
  · have h1 := length_mergeK kvs []
    rw [List.length_nil] at h1
    exact Nat.le_trans (show _ ≤ 10000 by omega) (by decide)
  · exact wpAny_pure ⟨.ref s.heap.objs.size, _, I5, rfl, q2⟩
/-! tables joined -/
def mrgT (s t : Bag) : Bag := t.foldl (fun acc q => putT acc q.1 q.2) s
theorem kv_mrg : ∀ (t s : Bag), mergeK (kvOf s) (kvOf t) = kvOf (mrgT s t)
  | [], s => rfl
  | q :: r, s => by
    show mergeK (putK (kvOf s) (Sum.inr q.1) (.int q.2)) (kvOf r) = kvOf (mrgT (putT s q.1 q.2) r)
    rw [kv_put, kv_mrg r]
theorem mrgT_len : ∀ (s t : Bag), (mrgT s t).length ≤ s.length + t.length
  | s, [] => Nat.le_refl _
  | s, q :: r => by
    have h1 := mrgT_len (putT s q.1 q.2) r
    have h2 := putT_len s q.1 q.2
    show (mrgT (putT s q.1 q.2) r).length ≤ _
    rw [List.length_cons]; omega
theorem mrgT_mem : ∀ {t s : Bag} {y : Str}, y ∈ keys (mrgT s t) ↔ y ∈ keys s ∨ y ∈ keys t
  | [], s, y => by show y ∈ keys s ↔ _; simp
  | q :: r, s, y => by
    show y ∈ keys (mrgT (putT s q.1 q.2) r) ↔ _
    rw [mrgT_mem (t := r), put_keys, addN_mem]
    show _ ↔ y ∈ keys s ∨ y ∈ q.1 :: keys r
    rw [List.mem_cons, or_assoc]
theorem w_dmrg {σ : L2.St} {H : Hp} {Q : VK} {i j : Nat} {a b : Addr} {s t : Bag} (hi : σ[i]? = some (some (.ref a))) (hj : σ[j]? = some (some (.ref b))) (ha : H a = some (.dK (kvOf s))) (hb : H b = some (.dK (kvOf t))) (nd : (keys s).Nodup)
    (l1 : s.length ≤ 1000) (l2 : t.length ≤ 1000) (h : ∀ p, H p = none → Q (.ref p) (upd H p (.dK (kvOf (mrgT s t))))) : tDMrg (tVar i) (tVar j) σ H Q := by
  intro p hp
  have na : a ≠ p := fun e => by rw [e, hp] at ha; cases ha
  have nb : b ≠ p := fun e => by rw [e, hp] at hb; cases hb
  refine w_var hi ⟨a, kvOf s, rfl, na, .inl (by rw [upd_ne na]; exact ha), upd_same, ?_⟩
  refine w_var hj ⟨b, kvOf t, rfl, nb, .inl (by rw [upd_ne nb, upd_ne nb]; exact hb), upd_same, by rw [kv_len, kv_len]; omega, ?_⟩
  have e : upd (upd (upd H p (.dK [])) p (.dK (mergeK [] (kvOf s)))) p (.dK (mergeK (mergeK [] (kvOf s)) (kvOf t))) = upd H p (.dK (kvOf (mrgT s t))) := by
    rw [merge_self nd, kv_mrg]
    funext x
    by_cases z : x = p
    · subst z; rw [upd_same, upd_same]
    · rw [upd_ne z, upd_ne z, upd_ne z, upd_ne z]
  rw [e]
  exact h p hp
/-! ### true counts that fit, by names -/
def FitB (ps : Bag) (d N : Int) (qs : Bag) : Prop := sumC qs = N ∧ ∀ n, getT ps n ≤ getT qs n ∧ getT qs n ≤ getT ps n + d
theorem fit_iff {ps qs : Bag} {d N : Int} {ys : List Str} (he : sumC qs = N) (hd : 0 ≤ d) (hm : ∀ y, y ∈ ys ↔ y ∈ keys qs ∨ y ∈ keys ps) :
    (∀ y ∈ ys, (decide (0 ≤ getT qs y - getT ps y) && decide (getT qs y - getT ps y ≤ d)) = true) ↔ FitB ps d N qs := by
  constructor
  · refine fun h => ⟨he, fun n => ?_⟩
    by_cases z : n ∈ ys
    · have := h n z
      rw [Bool.and_eq_true, decide_eq_true_eq, decide_eq_true_eq] at this
      omega
    · have z2 : ¬ (n ∈ keys qs ∨ n ∈ keys ps) := fun q => z ((hm n).mpr q)
      rw [getT_no fun q => z2 (.inl q), getT_no fun q => z2 (.inr q)]
      omega
  · intro h y _
    have := h.2 y
    rw [Bool.and_eq_true, decide_eq_true_eq, decide_eq_true_eq]
    omega
theorem FitV.b {c : Int} {ps : Bag} {d N : Int} {fs : Bag} (h : FitV c ps d fs) (hN : N = sumC ps + d * (c + 1)) : FitB ps d N fs := ⟨by rw [h.sum, hN], fun n => ⟨h.low n, h.hi n⟩⟩
/-! ### values that are bags -/
def Bags (K : PySem.W.Frag) (H : Hp) (xs : List V) : Prop := ∀ y ∈ xs, ∃ qs, Dp K H y (bagD qs) ∧ BagOk qs ∧ qs.length ≤ 12
section
variable {K : PySem.W.Frag} {H H' : Hp} {xs ys : List V}
theorem Bags.same (h : Bags K H xs) (s : Same H H') : Bags K H' xs := fun y hy => by
  obtain ⟨qs, h1, h2⟩ := h y hy
  exact ⟨qs, dp_same s h1, h2⟩
theorem Bags.t (h : Bags K H xs) (s : SameT H H') : Bags K H' xs := fun y hy => by
  obtain ⟨qs, h1, h2⟩ := h y hy
  exact ⟨qs, dp_flat s h1 (flat_bag qs), h2⟩
theorem Bags.app (h : Bags K H xs) (h' : Bags K H ys) : Bags K H (xs ++ ys) := fun y hy => (List.mem_append.mp hy).elim (h y) (h' y)
theorem Bags.one {v : V} {qs : Bag} (h : Dp K H v (bagD qs)) (ho : BagOk qs) (hl : qs.length ≤ 12) : Bags K H [v] := fun y hy => by
  rw [List.mem_singleton.mp hy]; exact ⟨qs, h, ho, hl⟩
theorem Bags.two {v w : V} {ps qs : Bag} (h : Dp K H v (bagD ps)) (ho : BagOk ps) (hl : ps.length ≤ 12) (h' : Dp K H w (bagD qs)) (ho' : BagOk qs) (hl' : qs.length ≤ 12) : Bags K H [v, w] := (Bags.one h ho hl).app (.one h' ho' hl')
end
end TP

namespace TP
open PySem PySem.Spec PyProof.Rows L2
end TP

namespace TP
open PySem PySem.Spec PyProof.Rows L2
/-! ### min of texts, max with a default -/
def rMinS (K : PySem.W.Frag) : List V → Hp → VK → Prop := fun vs H Q => ∃ (a : Addr) (ws : List Str), vs = [V.ref a] ∧ SqL K H a (ws.map V.str) ∧ 0 < ws.length ∧ ∀ m, m ∈ ws → (∀ y, y ∈ ws → ¬ ltS y m) → Q (.str m) H
def rMaxD (K : PySem.W.Frag) : List V → List V → Hp → VK → Prop := fun vs zs H Q => ∃ (a : Addr) (ns : List Int) (d : Int), vs = [V.ref a] ∧ zs = [.int d] ∧ SqL K H a (ns.map V.int) ∧ (ns = [] → Q (.int d) H) ∧ ∀ m, m ∈ ns → (∀ y, y ∈ ns → y ≤ m) → Q (.int m) H
section
variable {X : Cx}
end
section
variable {K : PySem.W.Frag} {H : Hp} {Q : VK} {a : Addr}
/-! del d[k], d[k] += v -/
def DelC (x y : V) (H : Hp) (k : Hp → Prop) : Prop := ∃ a kvs kk, x = .ref a ∧ H a = some (.dK kvs) ∧ y = kV kk ∧ (valV kvs kk).isSome = true ∧ k (upd H a (.dK (dropK kvs kk)))
theorem w_ddel {td ty : TE} {σ : L2.St} {De : Ends} (h : td σ H fun x H1 => ty σ H1 fun y H2 => DelC x y H2 fun H3 => De.nx σ H3) : sDDel td ty De σ H := h
def dropT (t : Bag) (n : Str) : Bag := t.filter fun p => decide (p.1 ≠ n)
/-- d[k] += v of numbers -/
def AugC (x y : V) (tv : TE) (σ : L2.St) (rd : V → V → Hp → VK → Prop) (H : Hp) (k : Hp → Prop) : Prop := ∃ a v, x = .ref a ∧ DGet H a y (some v) ∧ tv σ H fun y2 H3 => rd v y2 H3 fun z H4 => ∃ H5, DPut H4 a y z H5 ∧ k H5
theorem w_daug {td ty tv : TE} {rd : V → V → Hp → VK → Prop} {σ : L2.St} {De : Ends} (h : td σ H fun x H1 => ty σ H1 fun y H2 => AugC x y tv σ rd H2 fun H5 => De.nx σ H5) : sDAug td ty tv rd De σ H := h
end
end TP

namespace TP
open PySem PySem.Spec PyProof.Rows L2
/-! ### the replacing rule -/
open Classical in
noncomputable def minN (l : List Str) : Str := if h : ∃ m, m ∈ l ∧ ∀ y ∈ l, ¬ ltS y m then Classical.choose h else Str.empty
def losersT (t : Bag) : List Str := (t.filter fun p => decide (p.2 = minV t)).map (·.1)
noncomputable def loserT (t : Bag) : Str := minN (losersT t)
open Classical in
noncomputable def plcT (c : Int) (t : Bag) (n : Str) (m : Int) : Bag :=
  if n ∈ keys t then putT t n (getT t n + m) else if (t.length : Int) = c then dropT t (loserT t) ++ [(n, minV t + m)] else t ++ [(n, m)]
/-! what the least count is, by the numbers -/
def InStep (c : Int) (t t' : Bag) (n : Str) (m : Int) : Prop := (∀ x, getT (lowT t' (leastR c t')) x = getT (arrT (c - 1) (lowT t (leastR c t)) n m).1 x) ∧ leastR c t' = leastR c t + (arrT (c - 1) (lowT t (leastR c t)) n m).2
/-- above the least count, and how much it rose -/
def Above (c : Int) (t t' s : Bag) (l : Int) : Prop := (lowT t' (leastR c t')).Perm s ∧ leastR c t' = leastR c t + l
noncomputable def plcs (c : Int) (t : Bag) (rs : Bag) : Bag := rs.foldl (fun t r => plcT c t r.1 r.2) t
end TP

namespace TP
open PySem PySem.Spec PyProof.Rows L2
/-! ### sorted of a tuple of pairs -/
section
variable {prog : Program} {w : World} {A : Around} {E : Value → Shared → Prop} {s : Shared}
end
def rSortedBT (K : PySem.W.Frag) : List V → Hp → VK → Prop := fun vs H Q => ∃ (a : Addr) (xs : List V) (ps : Bag), vs = [V.ref a] ∧ SqT K H a xs ∧ DpAll K H xs (ps.map pairD) ∧ (keys ps).Nodup ∧ ps.length < 64 ∧
  ∀ (ys : List V) (qs : Bag) (p : Addr), qs.Perm ps → (qs.Pairwise fun a b => ltS a.1 b.1) → DpAll K H ys (qs.map pairD) → H p = none → Q (.ref p) (upd H p (.lst ys))
section
variable {X : Cx}
end
/-! d.pop(k) -/
theorem w_dpop1 {td ty : TE} {σ : L2.St} {H : Hp} {Q : VK} (h : td σ H fun x H1 => ∃ a, x = .ref a ∧ IsD H1 a ∧ ty σ H1 fun y H2 => ∃ kvs k v, H2 a = some (.dK kvs) ∧ y = kV k ∧ valV kvs k = some v ∧ Q v (upd H2 a (.dK (dropK kvs k)))) : tDPop1 td ty σ H Q := h
end TP

namespace TP
open PySem PySem.Spec PyProof.Rows L2
def RevC (K : PySem.W.Frag) (x : V) (H : Hp) (Q : VK) : Prop := ∃ a xs, x = .ref a ∧ SqL K H a xs ∧ ∀ p, H p = none → Q (.ref p) (upd H p (.lst xs.reverse))
theorem w_revL {K : PySem.W.Frag} {te : TE} {σ : L2.St} {H : Hp} {Q : VK} (h : te σ H fun x H1 => RevC K x H1 Q) : tRevL K te σ H Q := h
/-! ### bags with any numbers, shown -/
def BagI (ps : Bag) : Prop := ∀ p ∈ ps, isName p.1 = true ∧ p.2.natAbs ≤ 10 ^ 100
/-! ### losses -/
def lossT (p1 p2 p3 : Bag) : Bag := tabOf (p1 ++ p2 ++ sgnB (-1) p3)
def nzF (t : Bag) (ys : List Str) : Bag := ys.filterMap fun y => if getT t y = 0 then none else some (y, getT t y)
/-- the numbers of a table but the zeros, ascending -/
def NzB (t ls : Bag) : Prop := ∃ ys : List Str, ys.Perm (keys t) ∧ ys.Pairwise ltS ∧ ls = nzF t ys
end TP

namespace TP
open PySem PySem.Spec PyProof.Rows L2
/-! ### obstacles of merging -/
def maxV0 (t : Bag) : Int := (t.map (·.2)).foldl max 0
def loD (c : Int) (t : Bag) : Int := max (maxV0 t) ((sumC t + 2 * c - 1) / (2 * c))
def hiD (c : Int) (t : Bag) : Int := sumC t / (c + 1)
def GainR (t : Bag) (gs : List Str) : Prop := ∃ ys : List Str, ys.Perm (keys t) ∧ ys.Pairwise ltS ∧ gs = ys.filter fun y => decide (getT t y < 0)
/-- what merge_obstacle tells -/
def ObsD (c : Int) (t : Bag) (d : PyData) : Prop := ∃ gs, GainR t gs ∧ ((∃ y r, gs = y :: r ∧ d = .tuple [.str "gain", .str y]) ∨ (gs = [] ∧ d = if loD c t ≤ hiD c t then .none else .tuple [.str "range", .int (loD c t), .int (hiD c t)]))
def noneD : PyData → Bool
  | .none => true
  | _ => false
end TP

namespace TP
open PySem PySem.Spec PyProof.Rows L2
/-! ### xs.extend(t), t a tuple -/
def rExtendT (K : PySem.W.Frag) : V → List V → Hp → VK → Prop := fun x vs H Q => ∃ l b xs zs, x = .ref l ∧ vs = [.ref b] ∧ H l = some (.lst xs) ∧ SqT K H b zs ∧ xs.length + zs.length ≤ sizeLine ∧ Q .non (upd H l (.lst (xs ++ zs)))
/-! ### orders one behind the other -/
end TP

namespace TP
open PySem PySem.Spec PyProof.Rows L2
/-! ### how many names can be ahead -/
theorem w_sortedI {K : PySem.W.Frag} {H : Hp} {Q : VK} {a : Addr} {ns : List Int} (hs : SqL K H a (ns.map V.int)) (hl : ns.length < 64) (h : ∀ (ns' : List Int) (p : Addr), ns'.Perm ns → ns'.Pairwise (· ≤ ·) → H p = none → Q (.ref p) (upd H p (.lst (ns'.map V.int)))) : rSorted K [.ref a] H Q := ⟨a, ns, rfl, hs, hl, h⟩
def grd (d : Int) (z : Int × Int) (ns : List Int) : Int × Int := ns.foldl (fun z n => if n ≤ min d z.1 then (z.1 - n, z.2 + 1) else z) z
theorem grd_snoc (d : Int) (z : Int × Int) (ns : List Int) (n : Int) : grd d z (ns ++ [n]) = if n ≤ min d (grd d z ns).1 then ((grd d z ns).1 - n, (grd d z ns).2 + 1) else grd d z ns := by unfold grd; rw [List.foldl_append]; rfl
theorem grd_cons (d : Int) (z : Int × Int) (n : Int) (ns : List Int) : grd d z (n :: ns) = grd d (if n ≤ min d z.1 then (z.1 - n, z.2 + 1) else z) ns := rfl
theorem grd_skip {d : Int} : ∀ {ns : List Int} {z : Int × Int}, (∀ n ∈ ns, ¬ n ≤ min d z.1) → grd d z ns = z
  | [], _, _ => rfl
  | n :: r, z, h => by
    rw [grd_cons, if_neg (h n List.mem_cons_self)]
    exact grd_skip fun m hm => h m (List.mem_cons_of_mem _ hm)
theorem grd_filter {d : Int} : ∀ (ns : List Int) (z : Int × Int), grd d z ns = grd d z (ns.filter fun n => decide (n ≤ d))
  | [], _ => rfl
  | n :: r, z => by
    by_cases h : n ≤ d
    · rw [List.filter_cons_of_pos (by simpa using h), grd_cons, grd_cons]; exact grd_filter r _
    · rw [List.filter_cons_of_neg (by simpa using h), grd_cons, if_neg (by omega)]; exact grd_filter r z
/-- the greedy way takes the longest run of the least ones -/
theorem grd_spec {d : Int} : ∀ {ms : List Int}, ms.Pairwise (· ≤ ·) → (∀ n ∈ ms, 0 ≤ n ∧ n ≤ d) → ∀ (U k : Int), 0 ≤ U → ∃ f : Nat, f ≤ ms.length ∧ grd d (U, k) ms = (U - (ms.take f).sum, k + f) ∧ (ms.take f).sum ≤ U ∧ (f = ms.length ∨ U < (ms.take (f + 1)).sum)
  | [], _, _, U, k, h0 => ⟨0, Nat.le_refl _, by simp [grd], by simpa using h0, .inl rfl⟩
  | n :: r, hs, hb, U, k, h0 => by
    have hs2 := List.pairwise_cons.mp hs
    have hn := hb n List.mem_cons_self
    by_cases h : n ≤ U
    · obtain ⟨f, f1, f2, f3, f4⟩ := grd_spec hs2.2 (fun m hm => hb m (List.mem_cons_of_mem _ hm)) (U - n) (k + 1) (by omega)
      refine ⟨f + 1, by rw [List.length_cons]; omega, ?_, ?_, ?_⟩
      · rw [grd_cons, if_pos (show n ≤ min d (U, k).1 by show n ≤ min d U; omega)]
        show grd d (U - n, k + 1) r = _
        rw [f2, List.take_succ_cons, List.sum_cons]
        refine Prod.ext ?_ ?_
        · show U - n - _ = U - (n + _); omega
        · show k + 1 + (f : Int) = k + ((f + 1 : Nat) : Int); omega
      · rw [List.take_succ_cons, List.sum_cons]; omega
      · rcases f4 with e | e
        · left; rw [List.length_cons, e]
        · right; rw [List.take_succ_cons, List.sum_cons]; omega
    · refine ⟨0, Nat.zero_le _, ?_, by simpa using h0, .inr (by simp; omega)⟩
      rw [grd_skip fun m hm => ?_]
      · simp
      · show ¬ m ≤ min d U
        rcases List.mem_cons.mp hm with e | e
        · rw [e]; omega
        · have := hs2.1 m e; omega
/-- a part of a list -/
def PartOf (S l : List Int) : Prop := ∃ r, (S ++ r).Perm l
theorem part_sum : ∀ {l : List Int}, l.Pairwise (· ≤ ·) → ∀ {S : List Int}, PartOf S l → S.length ≤ l.length ∧ (l.take S.length).sum ≤ S.sum
  | [], _, S, ⟨r, h⟩ => by
    have e := h.length_eq
    rw [List.length_append, List.length_nil] at e
    have : S = [] := List.length_eq_zero_iff.mp (by omega)
    subst this; simp
  | x :: l, hs, S, ⟨r, h⟩ => by
    have hs2 := List.pairwise_cons.mp hs
    cases S with
    | nil => simp
    | cons y S =>
      by_cases hx : x ∈ y :: S
      · have p1 := List.perm_cons_erase hx
        have p2 : ((y :: S).erase x ++ r).Perm l := by
          have : (x :: ((y :: S).erase x ++ r)).Perm (x :: l) := (p1.symm.append_right r).trans h
          exact List.Perm.cons_inv this
        obtain ⟨i1, i2⟩ := part_sum hs2.2 ⟨r, p2⟩
        have el : (y :: S).length = ((y :: S).erase x).length + 1 := by rw [p1.length_eq, List.length_cons]
        have es : (y :: S).sum = x + ((y :: S).erase x).sum := by rw [sum_perm p1, List.sum_cons]
        rw [el, List.take_succ_cons, List.sum_cons, es, List.length_cons]
        exact ⟨by omega, by omega⟩
      · have hr : x ∈ r := by
          have : x ∈ (y :: S) ++ r := h.mem_iff.mpr List.mem_cons_self
          exact (List.mem_append.mp this).resolve_left hx
        have p1 := List.perm_cons_erase hr
        have p2 : ((y :: S) ++ r.erase x).Perm l := by
          have : (x :: ((y :: S) ++ r.erase x)).Perm (x :: l) := (List.perm_middle.symm.trans (p1.symm.append_left (y :: S))).trans h
          exact List.Perm.cons_inv this
        have p3 : (S ++ (y :: r.erase x)).Perm l := List.perm_middle.trans p2
        obtain ⟨i1, i2⟩ := part_sum hs2.2 ⟨_, p3⟩
        have hy : y ∈ l := p2.mem_iff.mp (List.mem_append.mpr (.inl List.mem_cons_self))
        have hxy := hs2.1 y hy
        rw [List.length_cons, List.take_succ_cons, List.sum_cons, List.sum_cons, List.length_cons]
        exact ⟨by omega, by omega⟩
theorem take_sum_mono {l : List Int} (h : ∀ n ∈ l, 0 ≤ n) : ∀ {i j : Nat}, i ≤ j → (l.take i).sum ≤ (l.take j).sum := by
  intro i j hij
  induction l generalizing i j with
  | nil => simp
  | cons x r ih =>
    cases i with
    | zero =>
      rw [List.take_zero]
      exact sum_pos _ fun y hy => h y (List.mem_of_mem_take hy)
    | succ i =>
      cases j with
      | zero => omega
      | succ j =>
        rw [List.take_succ_cons, List.take_succ_cons, List.sum_cons, List.sum_cons]
        have := ih (fun n hn => h n (List.mem_cons_of_mem _ hn)) (show i ≤ j by omega)
        omega
def worth (g d U : Int) (q : Int × Int) : Int := q.1 + if g ≤ d then (U - q.2) / g else 0
theorem worth_mono {g d U : Int} {ms : List Int} (hg : 1 ≤ g) (hb : ∀ n ∈ ms, 0 ≤ n ∧ n ≤ g) : ∀ (f s : Nat), s ≤ f → f ≤ ms.length → worth g d U ((s : Int), (ms.take s).sum) ≤ worth g d U ((f : Int), (ms.take f).sum) := by
  intro f
  induction f with
  | zero => intro s hs _; have : s = 0 := by omega
            subst this; exact Int.le_refl _
  | succ f ih =>
    intro s hs hf
    by_cases e : s = f + 1
    · subst e; exact Int.le_refl _
    · refine Int.le_trans (ih s (by omega) (by omega)) ?_
      have hm : ms[f]? = some ms[f] := List.getElem?_eq_getElem (by omega)
      have hv := hb ms[f] (List.getElem_mem (by omega))
      have es : (ms.take (f + 1)).sum = (ms.take f).sum + ms[f] := by rw [take_succ_snoc hm, List.sum_append, List.sum_cons]; simp
      unfold worth
      by_cases z : g ≤ d
      · rw [if_pos z, if_pos z]
        show (f : Int) + (U - (ms.take f).sum) / g ≤ ((f + 1 : Nat) : Int) + (U - (ms.take (f + 1)).sum) / g
        rw [es]
        have h1 : (U - (ms.take f).sum) / g ≤ (U - ((ms.take f).sum + ms[f]) + 1 * g) / g := Int.ediv_le_ediv (by omega) (by omega)
        rw [Int.add_mul_ediv_right _ _ (by omega)] at h1
        omega
      · rw [if_neg z, if_neg z]
        show (f : Int) + 0 ≤ ((f + 1 : Nat) : Int) + 0
        omega
/-- the greedy way is the best -/
theorem grd_best {g d U : Int} {ns L : List Int} (hg : 1 ≤ g) (hU : 0 ≤ U) (hp : ns.Perm L) (hs : ns.Pairwise (· ≤ ·)) (hb : ∀ n ∈ L, 0 ≤ n ∧ n ≤ g) :
    (∃ S, PartOf S (L.filter fun n => decide (n ≤ d)) ∧ S.sum ≤ U ∧ worth g d U ((S.length : Int), S.sum) = worth g d U ((grd d (U, 0) ns).2, U - (grd d (U, 0) ns).1)) ∧
    ∀ S, PartOf S (L.filter fun n => decide (n ≤ d)) → S.sum ≤ U → worth g d U ((S.length : Int), S.sum) ≤ worth g d U ((grd d (U, 0) ns).2, U - (grd d (U, 0) ns).1) := by
  have hpf : (ns.filter fun n => decide (n ≤ d)).Perm (L.filter fun n => decide (n ≤ d)) := hp.filter _
  have hsf : (ns.filter fun n => decide (n ≤ d)).Pairwise (· ≤ ·) := hs.sublist List.filter_sublist
  have hbf : ∀ n ∈ ns.filter fun n => decide (n ≤ d), 0 ≤ n ∧ n ≤ d ∧ n ≤ g := fun n hn => by
    rw [List.mem_filter] at hn
    have h1 := hb n (hp.mem_iff.mp hn.1)
    have h2 : n ≤ d := by simpa using hn.2
    exact ⟨h1.1, h2, h1.2⟩
  rw [grd_filter]
  generalize (ns.filter fun n => decide (n ≤ d)) = ms at hpf hsf hbf
  obtain ⟨f, f1, f2, f3, f4⟩ := grd_spec hsf (fun n hn => ⟨(hbf n hn).1, (hbf n hn).2.1⟩) U 0 hU
  have ev : worth g d U ((grd d (U, 0) ms).2, U - (grd d (U, 0) ms).1) = worth g d U ((f : Int), (ms.take f).sum) := by
    rw [f2]
    congr 1
    refine Prod.ext ?_ ?_
    · show 0 + (f : Int) = f; omega
    · show U - (U - (ms.take f).sum) = _; omega
  rw [ev]
  refine ⟨⟨ms.take f, ⟨ms.drop f, by rw [List.take_append_drop]; exact hpf⟩, f3, by rw [List.length_take, Nat.min_eq_left f1]⟩, fun S ⟨r, hS⟩ hSU => ?_⟩
  obtain ⟨i1, i2⟩ := part_sum hsf ⟨r, hS.trans hpf.symm⟩
  have hsle : S.length ≤ f := by
    rcases f4 with e | e
    · omega
    · refine Classical.byContradiction fun q => ?_
      have := take_sum_mono (l := ms) (fun n hn => (hbf n hn).1) (show f + 1 ≤ S.length by omega)
      omega
  refine Int.le_trans ?_ (worth_mono hg (fun n hn => ⟨(hbf n hn).1, (hbf n hn).2.2⟩) f S.length hsle f1)
  unfold worth
  by_cases z : g ≤ d
  · rw [if_pos z, if_pos z]
    show (S.length : Int) + (U - S.sum) / g ≤ (S.length : Int) + (U - (ms.take S.length).sum) / g
    have := Int.ediv_le_ediv (c := g) (by omega) (show U - S.sum ≤ U - (ms.take S.length).sum by omega)
    omega
  · rw [if_neg z, if_neg z]; exact Int.le_refl _
/-! all choices -/
def choF (acc : List (Int × Int)) (n : Int) : List (Int × Int) := acc ++ acc.map fun q => (q.1 + 1, q.2 + n)
def cho (ns : List Int) : List (Int × Int) := ns.foldl choF [(0, 0)]
theorem cho_mem : ∀ (L : List Int) (acc : List (Int × Int)) (q : Int × Int), q ∈ L.foldl choF acc ↔ ∃ q0 ∈ acc, ∃ S, PartOf S L ∧ q = (q0.1 + (S.length : Int), q0.2 + S.sum)
  | [], acc, q => by
    constructor
    · intro h
      exact ⟨q, h, [], ⟨[], List.Perm.refl _⟩, by simp⟩
    · rintro ⟨q0, h0, S, ⟨r, hp⟩, e⟩
      have e1 := hp.length_eq
      rw [List.length_append, List.length_nil] at e1
      have : S = [] := List.length_eq_zero_iff.mp (by omega)
      subst this
      simp at e
      rw [e]; exact h0
  | n :: L, acc, q => by
    rw [List.foldl_cons, cho_mem L]
    constructor
    · rintro ⟨q0, h0, S, ⟨r, hp⟩, e⟩
      rcases List.mem_append.mp h0 with h | h
      · exact ⟨q0, h, S, ⟨n :: r, List.perm_middle.trans (hp.cons n)⟩, e⟩
      · obtain ⟨q1, h1, e1⟩ := List.mem_map.mp h
        refine ⟨q1, h1, n :: S, ⟨r, hp.cons n⟩, ?_⟩
        rw [e, ← e1]
        refine Prod.ext ?_ ?_
        · show q1.1 + 1 + (S.length : Int) = q1.1 + (((n :: S).length : Nat) : Int); rw [List.length_cons]; omega
        · show q1.2 + n + S.sum = q1.2 + (n :: S).sum; rw [List.sum_cons]; omega
    · rintro ⟨q0, h0, S, ⟨r, hp⟩, e⟩
      by_cases hn : n ∈ S
      · have p1 := List.perm_cons_erase hn
        refine ⟨(q0.1 + 1, q0.2 + n), List.mem_append.mpr (.inr (List.mem_map.mpr ⟨q0, h0, rfl⟩)), S.erase n, ⟨r, ?_⟩, ?_⟩
        · exact List.Perm.cons_inv ((p1.symm.append_right r).trans hp)
        · rw [e]
          refine Prod.ext ?_ ?_
          · show q0.1 + (S.length : Int) = q0.1 + 1 + ((S.erase n).length : Int); rw [p1.length_eq, List.length_cons]; omega
          · show q0.2 + S.sum = q0.2 + n + (S.erase n).sum; rw [sum_perm p1, List.sum_cons]; omega
      · have hr : n ∈ r := by
          have : n ∈ S ++ r := hp.mem_iff.mpr List.mem_cons_self
          exact (List.mem_append.mp this).resolve_left hn
        have p1 := List.perm_cons_erase hr
        refine ⟨q0, List.mem_append.mpr (.inl h0), S, ⟨r.erase n, ?_⟩, e⟩
        exact List.Perm.cons_inv ((List.perm_middle.symm.trans (p1.symm.append_left S)).trans hp)
def bestF (g d U : Int) (b : Int) (q : Int × Int) : Int := if q.2 ≤ U then max b (worth g d U q) else b
theorem best_fold {g d U : Int} : ∀ (cs : List (Int × Int)) (b : Int), b ≤ cs.foldl (bestF g d U) b ∧ (∀ q ∈ cs, q.2 ≤ U → worth g d U q ≤ cs.foldl (bestF g d U) b) ∧ (cs.foldl (bestF g d U) b = b ∨ ∃ q ∈ cs, q.2 ≤ U ∧ cs.foldl (bestF g d U) b = worth g d U q)
  | [], b => ⟨Int.le_refl _, nofun, .inl rfl⟩
  | q :: cs, b => by
    obtain ⟨i1, i2, i3⟩ := best_fold cs (bestF g d U b q)
    rw [List.foldl_cons]
    have hb : b ≤ bestF g d U b q := by unfold bestF; split <;> omega
    refine ⟨Int.le_trans hb i1, fun p hp hU => ?_, ?_⟩
    · rcases List.mem_cons.mp hp with rfl | h
      · refine Int.le_trans ?_ i1
        unfold bestF
        rw [if_pos hU]; omega
      · exact i2 p h hU
    · rcases i3 with e | ⟨p, hp, hU, e⟩
      · by_cases z : q.2 ≤ U
        · rcases Int.le_total b (worth g d U q) with h | h
          · right
            refine ⟨q, List.mem_cons_self, z, ?_⟩
            rw [e]; unfold bestF; rw [if_pos z, Int.max_eq_right h]
          · left
            rw [e]; unfold bestF; rw [if_pos z, Int.max_eq_left h]
        · left; rw [e]; unfold bestF; rw [if_neg z]
      · exact .inr ⟨p, List.mem_cons_of_mem _ hp, hU, e⟩
/-- what the greedy way tells is the best of all choices -/
theorem ahead_eq {g d U : Int} {ns L : List Int} (hg : 1 ≤ g) (hU : 0 ≤ U) (hp : ns.Perm L) (hs : ns.Pairwise (· ≤ ·)) (hb : ∀ n ∈ L, 0 ≤ n ∧ n ≤ g) :
    (cho (L.filter fun n => decide (n ≤ d))).foldl (bestF g d U) 0 = worth g d U ((grd d (U, 0) ns).2, U - (grd d (U, 0) ns).1) := by
  obtain ⟨⟨S, hS, hSU, eS⟩, hall⟩ := grd_best (d := d) hg hU hp hs hb
  obtain ⟨i1, i2, i3⟩ := best_fold (g := g) (d := d) (U := U) (cho (L.filter fun n => decide (n ≤ d))) 0
  have mem : ∀ q, q ∈ cho (L.filter fun n => decide (n ≤ d)) ↔ ∃ S, PartOf S (L.filter fun n => decide (n ≤ d)) ∧ q = ((S.length : Int), S.sum) := fun q => by
    unfold cho
    rw [cho_mem]
    constructor
    · rintro ⟨q0, h0, S, hS, e⟩
      rw [List.mem_singleton.mp h0] at e
      exact ⟨S, hS, by rw [e]; simp⟩
    · rintro ⟨S, hS, e⟩
      exact ⟨(0, 0), List.mem_singleton.mpr rfl, S, hS, by rw [e]; simp⟩
  have h1 : worth g d U ((grd d (U, 0) ns).2, U - (grd d (U, 0) ns).1) ≤ (cho (L.filter fun n => decide (n ≤ d))).foldl (bestF g d U) 0 := by
    rw [← eS]
    exact i2 _ ((mem _).mpr ⟨S, hS, rfl⟩) hSU
  refine Int.le_antisymm ?_ h1
  rcases i3 with e | ⟨q, hq, hqU, e⟩
  · rw [e]
    have h0 : worth g d U ((([] : List Int).length : Int), ([] : List Int).sum) ≤ worth g d U ((grd d (U, 0) ns).2, U - (grd d (U, 0) ns).1) := hall [] ⟨_, List.Perm.refl _⟩ (by simpa using hU)
    refine Int.le_trans ?_ h0
    unfold worth
    split
    · show (0 : Int) ≤ 0 + (U - 0) / g
      have := Int.ediv_nonneg (a := U - 0) (b := g) (by omega) (by omega)
      omega
    · simp
  · obtain ⟨S2, hS2, e2⟩ := (mem q).mp hq
    rw [e, e2]
    rw [e2] at hqU
    exact hall S2 hS2 hqU
def iiD (q : Int × Int) : PyData := .tuple [.int q.1, .int q.2]
def needL (g : Int) (ps : Bag) (x : Str) : List Int := (ps.filter fun p => !decide (p.1 = x)).map fun p => if g - p.2 > 0 then g - p.2 else 0
theorem need_fm (g : Int) (ps : Bag) (x : Str) : (ps.filterMap fun p => if p.1 = x then none else some (V.int (if g - p.2 > 0 then g - p.2 else 0))) = (needL g ps x).map V.int := by
  unfold needL
  rw [List.map_map]
  induction ps with
  | nil => rfl
  | cons p r ih =>
    by_cases h : p.1 = x
    · rw [List.filterMap_cons, if_pos h, List.filter_cons_of_neg (by simpa using h), ih]
    · rw [List.filterMap_cons, if_neg h, List.filter_cons_of_pos (by simpa using h), List.map_cons, ih]; rfl
theorem need_len (g : Int) (ps : Bag) (x : Str) : (needL g ps x).length ≤ ps.length := by unfold needL; rw [List.length_map]; exact List.length_filter_le _ _
theorem need_bnd {g : Int} {ps : Bag} {x : Str} (hp : ∀ p ∈ ps, 1 ≤ p.2) (hg : 1 ≤ g) : ∀ n ∈ needL g ps x, 0 ≤ n ∧ n ≤ g := fun n hn => by
  unfold needL at hn
  obtain ⟨p, h1, e⟩ := List.mem_map.mp hn
  have := hp p (List.mem_filter.mp h1).1
  rw [← e]
  split <;> omega
def aheadL (c d : Int) (ps : Bag) (x : Str) : Int := (cho ((needL (getT ps x + 1) ps x).filter fun n => decide (n ≤ d))).foldl (bestF (getT ps x + 1) d (d * (c + 1))) 0
theorem aheadL_nn (c d : Int) (ps : Bag) (x : Str) : 0 ≤ aheadL c d ps x := (best_fold _ 0).1
end TP

namespace TP
open PySem PySem.Spec PyProof.Rows L2 TL
/-! ### texts of orders -/
def wrdS (p : Str × Int) : Str := if 1 < p.2 then p.1 ++ ("*" : Str) ++ intS p.2 else p.1
def oText (rs : Bag) : Str := if rs = [] then "-" else Txt.join " " (rs.map wrdS)
def rIntS : List V → Hp → VK → Prop := fun xs H Q => ∃ (a : Str) (n : Int), xs = [.str a] ∧ intText? a = some n ∧ a.length ≤ 640 ∧ Q (.int n) H
/-! ### runs that are cut -/
def PartsOf (n : Str) (m : Int) (qs : Bag) : Prop := qs ≠ [] ∧ (∀ q ∈ qs, q.1 = n ∧ 1 ≤ q.2) ∧ sumC qs = m
inductive CutOf : Bag → Bag → Prop
  | nil : CutOf [] []
  | snoc {rs qs ps : Bag} {r : Str × Int} (h : CutOf rs qs) (hp : PartsOf r.1 r.2 ps) : CutOf (rs ++ [r]) (qs ++ ps)
def Alike (c : Int) (ps rs qs : Bag) : Prop := OrdOk qs ∧ (playT c ps qs).1.Perm (playT c ps rs).1 ∧ (playT c ps qs).2 = (playT c ps rs).2 ∧ ∀ x, cntC qs x = cntC rs x
end TP

namespace TP
open PySem PySem.Spec PyProof.Rows L2
/-! ### sorted(..) of a list of pairs of a number and a name -/
def NumAt (h : Heap) (v : Value) (i : Int) (y : Str) : Prop := ∃ a u t o n, v = Value.ref a ∧ h.get? a = some o ∧ o.cls = .type "tuple" ∧ o.data = .seq #[Value.int i u, Value.str y t] n
def nuAt (h : Heap) (v : Value) : Int × Str := match v with
  | .ref a => match h.get? a with
    | some o => match o.data with
      | .seq its _ => match its[0]?, its[1]? with
        | some (Value.int i _), some (Value.str y _) => (i, y)
        | _, _ => (0, Str.empty)
      | _ => (0, Str.empty)
    | none => (0, Str.empty)
  | _ => (0, Str.empty)
theorem NumAt.nu {h : Heap} {v : Value} {y : Str} {i : Int} (x : NumAt h v i y) : nuAt h v = (i, y) := by
  obtain ⟨a, t, u, o, n, rfl, ho, hc, hd⟩ := x
  unfold nuAt
  simp only [ho, hd]
  rfl
theorem NumAt.keeps {h h' : Heap} {v : Value} {y : Str} {i : Int} (x : NumAt h v i y) (k : ∀ b o, h.get? b = some o → o.cls = .type "tuple" → h'.get? b = some o) : NumAt h' v i y := by
  obtain ⟨a, t, u, o, n, rfl, ho, hc, hd⟩ := x
  exact ⟨a, t, u, o, n, rfl, k a o ho hc, hc, hd⟩
theorem NumAt.inj {h : Heap} {v : Value} {y z : Str} {i j : Int} (a : NumAt h v i y) (b : NumAt h v j z) : i = j ∧ y = z := by
  have := a.nu.symm.trans b.nu
  injection this with h1 h2
  exact ⟨h1, h2⟩
def ltN (a b : Int × Str) : Prop := a.1 < b.1 ∨ (a.1 = b.1 ∧ ltS a.2 b.2)
instance : DecidableRel ltN := fun a b => by unfold ltN ltS; exact inferInstance
theorem ltN_irrefl (a : Int × Str) : ¬ ltN a a := fun h => by
  rcases h with h | ⟨_, h⟩
  · omega
  · exact ltS_irrefl _ h
theorem ltN_trans {a b c : Int × Str} (h : ltN a b) (h2 : ltN b c) : ltN a c := by
  rcases h with h | ⟨e, h⟩ <;> rcases h2 with h2 | ⟨e2, h2⟩
  · exact .inl (by omega)
  · exact .inl (by omega)
  · exact .inl (by omega)
  · exact .inr ⟨by omega, ltS_trans h h2⟩
theorem ltN_tri (a b : Int × Str) : ltN a b ∨ a = b ∨ ltN b a := by
  rcases Int.lt_trichotomy a.1 b.1 with h | h | h
  · exact .inl (.inl h)
  · rcases ltS_tri a.2 b.2 with h2 | h2 | h2
    · exact .inl (.inr ⟨h, h2⟩)
    · exact .inr (.inl (Prod.ext h h2))
    · exact .inr (.inr (.inr ⟨h.symm, h2⟩))
  · exact .inr (.inr (.inl h))
def rankN (l : List (Int × Str)) (y : Int × Str) : Int := ((l.filter fun x => decide (ltN x y)).length : Nat)
theorem filtN_le {l : List (Int × Str)} {y z : Int × Str} (h : ∀ x, ltN x y → ltN x z) : (l.filter fun x => decide (ltN x y)).length ≤ (l.filter fun x => decide (ltN x z)).length := by
  induction l with
  | nil => exact Nat.le_refl _
  | cons x r ih =>
    rw [List.filter_cons, List.filter_cons]
    by_cases a : ltN x y
    · rw [if_pos (decide_eq_true a), if_pos (decide_eq_true (h x a))]; simp; exact ih
    · rw [if_neg (by simpa using a)]
      split
      · simp; omega
      · exact ih
theorem rankN_lt {l : List (Int × Str)} {y z : Int × Str} (h : ltN y z) (hy : y ∈ l) : rankN l y < rankN l z := by
  have key : ∀ l : List (Int × Str), y ∈ l → (l.filter fun x => decide (ltN x y)).length < (l.filter fun x => decide (ltN x z)).length := by
    intro l
    induction l with
    | nil => intro hy; cases hy
    | cons x r ih =>
      intro hy
      rw [List.filter_cons, List.filter_cons]
      rcases List.mem_cons.mp hy with e | hy
      · rw [← e, if_neg (by simpa using ltN_irrefl y), if_pos (decide_eq_true h)]
        have := filtN_le (l := r) (y := y) (z := z) fun x hx => ltN_trans hx h
        simp; omega
      · have := ih hy
        by_cases a : ltN x y
        · rw [if_pos (decide_eq_true a), if_pos (decide_eq_true (ltN_trans a h))]; simp; exact this
        · rw [if_neg (by simpa using a)]
          split
          · simp; omega
          · exact this
  have := key l hy
  unfold rankN
  omega
theorem rankN_iff {l : List (Int × Str)} {y z : Int × Str} (hy : y ∈ l) (hz : z ∈ l) : decide (ltN y z) = decide (rankN l y < rankN l z) := by
  refine decide_eq_decide.mpr ⟨fun h => rankN_lt h hy, fun h => ?_⟩
  rcases ltN_tri y z with a | a | a
  · exact a
  · subst a; omega
  · have := rankN_lt a hz; omega
theorem rankN_le {l : List (Int × Str)} {y z : Int × Str} (hy : y ∈ l) (hz : z ∈ l) (h : rankN l y ≤ rankN l z) : y.1 ≤ z.1 := by
  rcases ltN_tri y z with a | a | a
  · rcases a with a | a
    · omega
    · exact Int.le_of_eq a.1
  · subst a; exact Int.le_refl _
  · have := rankN_lt a hz; omega
theorem firstsN {h : Heap} : ∀ vs : List Value, (∀ v ∈ vs, ∃ i y, NumAt h v i y) → ∃ fs, PySem.W.KatTups h vs fs ∧ fs.length = vs.length ∧ ∀ f, f ∈ fs → ∃ y t, f = Value.int y t
  | [], _ => ⟨[], PySem.W.KatTups.nil, rfl, fun f hf => by simp at hf⟩
  | v :: vs, x => by
    obtain ⟨fs, k, hl, hi⟩ := firstsN vs fun u hu => x u (List.mem_cons_of_mem _ hu)
    obtain ⟨y, i, a, t, u, o, n, rfl, ho, hc, hd⟩ := x v List.mem_cons_self
    refine ⟨Value.int y t :: fs, PySem.W.KatTups.cons ho hc hd rfl k, by simp [hl], ?_⟩
    intro f hf
    rcases List.mem_cons.mp hf with rfl | hf
    · exact ⟨y, t, rfl⟩
    · exact hi f hf
section
variable {prog : Program} {w : World} {A : Around} {E : Value → Shared → Prop} {s : Shared}
theorem kind_nums {vs : List Value} {ρ : Int × Str → Int} (h2 : 2 ≤ vs.length) (x : ∀ v ∈ vs, ∃ i y, NumAt s.heap v i y)
    (hρ : ∀ v ∈ vs, ∀ u ∈ vs, ∀ i y j z, NumAt s.heap v i y → NumAt s.heap u j z → decide (ltN (i, y) (j, z)) = decide (ρ (i, y) < ρ (j, z))) (r : Value → Int) (hr : ∀ v ∈ vs, ∀ i y, NumAt s.heap v i y → r v = ρ (i, y)) (Q : SortKind → Shared → Prop)
    (h : ∀ κ, TS.Cmp prog w A s κ (pairsOf vs) r → Q κ s) : wpAny (model prog w) A (keyKind' vs.toArray) Q E s := by
  obtain ⟨fs, k, hl, hi⟩ := firstsN vs x
  refine PySem.W.kat_kind (T := Value.type "int") k (by omega) (fun f hf => ?_) rfl (h _ ?_)
  · obtain ⟨y, t, rfl⟩ := hi f hf
    exact PySem.W.Looks.of_pure rfl
  · intro p q hp hq Q' E' hQ
    rw [pairsOf_toList] at hp hq
    have mp := (mem_zip_self hp).2
    have mq := (mem_zip_self hq).2
    obtain ⟨i, y, py⟩ := x _ mp
    obtain ⟨j, z, pz⟩ := x _ mq
    have ep := hr _ mp _ _ py
    have eq := hr _ mq _ _ pz
    have hq2 := hρ _ mp _ mq _ _ _ _ py pz
    have hQ' : Q' (decide (ltN (i, y) (j, z))) s := by
      rw [hq2]
      have hQ2 : Q' (decide (r p.1 < r q.1)) s := hQ
      rw [ep, eq] at hQ2
      exact hQ2
    obtain ⟨a, t, u, o, n, e1, ho, hc, hd⟩ := py
    obtain ⟨a', t', u', o', n', e2, ho', hc', hd'⟩ := pz
    rw [e1, e2]
    refine PySem.W.kat_lt ho hd ho' hd' ?_
    show PySem.W.KatLex prog w A _ false Q' [(Value.int i t, Value.int j t'), (Value.str y u, Value.str z u')] 0 s
    refine PySem.W.kat_cons (wpAny_eqBool_int ?_)
    by_cases e : i = j
    · subst e
      rw [beq_self_eq_true]
      refine PySem.W.kat_yes (PySem.W.kat_cons (wpAny_eqBool_str ?_))
      by_cases e : y = z
      · subst e
        rw [decide_eq_true rfl]
        refine PySem.W.kat_yes (PySem.W.kat_nil ?_)
        rw [decide_eq_false (ltN_irrefl (i, y))] at hQ'
        exact hQ'
      · rw [decide_eq_false e]
        refine PySem.W.kat_no (oneLt_any_str ?_)
        have e2 : decide (ltN (i, y) (i, z)) = decide (y.cps.toList < z.cps.toList) := decide_eq_decide.mpr ⟨fun h => by
          rcases h with h | h
          · exact absurd h (Int.lt_irrefl _)
          · exact h.2, fun h => .inr ⟨rfl, h⟩⟩
        rw [e2] at hQ'
        exact hQ'
    · rw [show (i == j) = false from by simpa using e]
      refine PySem.W.kat_no (oneLt_any_int ?_)
      have e2 : decide (ltN (i, y) (j, z)) = decide (i < j) := decide_eq_decide.mpr ⟨fun h => by
        rcases h with h | h
        · exact h
        · exact absurd h.1 e, fun h => .inl h⟩
      rw [e2] at hQ'
      exact hQ'
theorem sort_nums {a : Addr} {vs : List Value} {n : Nat} {ρ : Int × Str → Int} {P : PySem.Fin → Shared → Prop} (ho : s.heap.get? a = some (seqObj "list" vs.toArray n)) (h64 : vs.length < 64) (x : ∀ v ∈ vs, ∃ i y, NumAt s.heap v i y)
    (hρ : ∀ v ∈ vs, ∀ u ∈ vs, ∀ i y j z, NumAt s.heap v i y → NumAt s.heap u j z → decide (ltN (i, y) (j, z)) = decide (ρ (i, y) < ρ (j, z))) (r : Value → Int) (hr : ∀ v ∈ vs, ∀ i y, NumAt s.heap v i y → r v = ρ (i, y))
    (h : ∀ out : Array Value, out.toList.Perm vs → out.toList.Pairwise (fun u v => r u ≤ r v) → P (.done (.ret .none)) { s with heap := sortedHeap s.heap a vs out }) :
    wpAny (model prog w) A (Builtin.«list.sort» ⟨[.ref a], []⟩) P E s := by
  have keep : ∀ b o, s.heap.get? b = some o → o.cls = .type "tuple" → (TS.midHeap s.heap a vs).get? b = some o := fun b o e hc => by
    refine TS.midHeap_old ?_ e
    rintro rfl
    rw [ho] at e
    have e' : seqObj "list" vs.toArray n = o := Option.some.inj e
    rw [← e'] at hc
    have c' : Value.type "list" = Value.type "tuple" := hc
    injection c' with c''
    exact absurd c'' (by decide)
  have back : ∀ v ∈ vs, ∀ i y, NumAt (TS.midHeap s.heap a vs) v i y → NumAt s.heap v i y := fun v hv i y p => by
    obtain ⟨i0, y0, p0⟩ := x v hv
    obtain ⟨e1, e2⟩ := p.inj (p0.keeps keep)
    rw [e1, e2]; exact p0
  refine SK.plain_sort (r := r) ho h64 (fun h2 Q hQ => ?_) fun ps out h1 h2 h3 => ?_
  · exact kind_nums (s := { s with heap := TS.midHeap s.heap a vs }) (ρ := ρ) h2 (fun v hv => by obtain ⟨y, i, p⟩ := x v hv; exact ⟨y, i, p.keeps keep⟩)
      (fun v hv u hu i y j z p q => hρ v hv u hu i y j z (back v hv _ _ p) (back u hu _ _ q)) r (fun v hv i y p => hr v hv i y (back v hv _ _ p)) Q hQ
  · obtain ⟨p, o⟩ := TS.out_rank h1 h2 h3
    exact h out p o
theorem sorted_nums {l : Addr} {vs : List Value} {ρ : Int × Str → Int} {Q : Value → Shared → Prop} (hl : s.heap.IsList l vs.toArray) (h64 : vs.length < 64) (x : ∀ v ∈ vs, ∃ i y, NumAt s.heap v i y)
    (hρ : ∀ v ∈ vs, ∀ u ∈ vs, ∀ i y j z, NumAt s.heap v i y → NumAt s.heap u j z → decide (ltN (i, y) (j, z)) = decide (ρ (i, y) < ρ (j, z)))
    (h : ∀ out : Array Value, out.toList.Perm vs → out.toList.Pairwise (fun u v => ρ (nuAt s.heap u) ≤ ρ (nuAt s.heap v)) → Q (.ref (s.heap.objs.size + 1)) { s with heap := sortedAll s.heap vs out }) :
    wpAny (model prog w) A (call (.builtin "sorted") [.ref l]) Q E s := by
  refine Calls.call_function_entry kind_sorted plain_sorted entry_sorted (args_sorted1 _) ?_
  unfold Builtin.«sorted»
  refine wpAny_bind (m := checkCount "sorted" 1 1 _) (wpAny_pure ?_)
  refine wpAny_bind (collect_list hl ?_ (by rw [sizeLine_eq]; omega))
  refine wpAny_bind (wpAny_newList ?_ (by rw [sizeLine_eq]; omega))
  have hsz : ((s.heap.push (seqObj "list" #[] 0)).update s.heap.objs.size (Obj.mapSeq (· ++ vs.toArray))).objs.size = s.heap.objs.size + 1 := by
    rw [Heap.size_update, size_push']
  have hoL : (((s.heap.push (seqObj "list" #[] 0)).update s.heap.objs.size (Obj.mapSeq (· ++ vs.toArray))).push (seqObj "list" vs.toArray 0)).get? (s.heap.objs.size + 1) = some (seqObj "list" vs.toArray 0) := by
    rw [← hsz]; exact Heap.get?_push_size _ rfl
  have keepA : ∀ b o, s.heap.get? b = some o → (((s.heap.push (seqObj "list" #[] 0)).update s.heap.objs.size (Obj.mapSeq (· ++ vs.toArray))).push (seqObj "list" vs.toArray 0)).get? b = some o := fun b o q => by
    have hlt : b < s.heap.objs.size := Heap.lt_size q
    rw [Heap.get?_push_ne _ _ _ (by rw [hsz]; exact Nat.ne_of_lt (Nat.lt_succ_of_lt hlt)), Heap.get?_update_ne _ _ _ _ (Nat.ne_of_lt hlt), Heap.get?_push_ne _ _ _ (Nat.ne_of_lt hlt)]
    exact q
  have keep : ∀ b o, s.heap.get? b = some o → o.cls = .type "tuple" → (((s.heap.push (seqObj "list" #[] 0)).update s.heap.objs.size (Obj.mapSeq (· ++ vs.toArray))).push (seqObj "list" vs.toArray 0)).get? b = some o := fun b o q _ => keepA b o q
  show wpAny _ _ _ _ _ { s with heap := ((s.heap.push (seqObj "list" #[] 0)).update s.heap.objs.size (Obj.mapSeq (· ++ vs.toArray))).push (seqObj "list" vs.toArray 0) }
  rw [hsz]
  generalize hh : ((s.heap.push (seqObj "list" #[] 0)).update s.heap.objs.size (Obj.mapSeq (· ++ vs.toArray))).push (seqObj "list" vs.toArray 0) = h2 at hoL keep ⊢
  have back : ∀ v ∈ vs, ∀ i y, NumAt h2 v i y → NumAt s.heap v i y := fun v hv i y p => by
    obtain ⟨i0, y0, p0⟩ := x v hv
    obtain ⟨e1, e2⟩ := p.inj (p0.keeps keep)
    rw [e1, e2]; exact p0
  refine wpAny_bind (wpAny_holding (wpAny_call_entry slot_list_sort ⟨_, hoL, rfl⟩ entry_list_sort (sort_nums (s := { s with heap := h2 }) (ρ := ρ) hoL h64 (fun v hv => by obtain ⟨y, i, p⟩ := x v hv; exact ⟨y, i, p.keeps keep⟩)
    (fun v hv u hu i y j z p q => hρ v hv u hu i y j z (back v hv _ _ p) (back u hu _ _ q)) (fun v => ρ (nuAt s.heap v)) (fun v hv i y p => ?_) fun out a1 a2 => ⟨_, rfl, ?_⟩) (args_list_sort _)))
  · show ρ (nuAt s.heap v) = ρ (i, y)
    rw [(back v hv _ _ p).nu]
  · subst hh
    exact wpAny_pure ⟨_, rfl, h out a1 a2⟩
end
def numD (p : Int × Str) : PyData := .tuple [.int p.1, .str p.2]
theorem num_inv {K : PySem.W.Frag} {H : Hp} {v : V} {p : Int × Str} (h : Dp K H v (numD p)) : ∃ a, v = .ref a ∧ SqT K H a [.int p.1, .str p.2] := by
  obtain ⟨a, ys, rfl, hs, hy⟩ := dp_tup_inv h
  cases hy with
  | cons h1 r =>
    cases r with
    | cons h2 r =>
      cases r
      rw [dp_int_inv h1, dp_str_inv h2] at hs
      exact ⟨a, rfl, hs⟩
theorem num_mk {K : PySem.W.Frag} {H : Hp} {a : Addr} {p : Int × Str} (h : SqT K H a [.int p.1, .str p.2]) : Dp K H (.ref a) (numD p) := .tup h (.cons (.int _) (.cons (.str _) .nil))
theorem nums_perm {K : PySem.W.Frag} {H : Hp} {ys xs : List V} (h : ys.Perm xs) : ∀ {ps : List (Int × Str)}, DpAll K H xs (ps.map numD) → ∃ qs : List (Int × Str), qs.Perm ps ∧ DpAll K H ys (qs.map numD) := by
  induction h with
  | nil => intro ps hd; cases ps with
    | nil => exact ⟨[], .nil, .nil⟩
    | cons p r => cases hd
  | cons x _ ih =>
    intro ps hd
    cases ps with
    | nil => cases hd
    | cons p r =>
      cases hd with
      | cons h1 h2 =>
        obtain ⟨qs, a, b⟩ := ih h2
        exact ⟨p :: qs, a.cons p, .cons h1 b⟩
  | swap x y l =>
    intro ps hd
    cases ps with
    | nil => cases hd
    | cons p r =>
      cases r with
      | nil => cases hd with | cons h1 h2 => cases h2
      | cons q r =>
        cases hd with
        | cons h1 h2 =>
          cases h2 with
          | cons h3 h4 => exact ⟨q :: p :: r, .swap p q r, .cons h3 (.cons h1 h4)⟩
  | trans _ _ i1 i2 =>
    intro ps hd
    obtain ⟨qs, a, b⟩ := i2 hd
    obtain ⟨rs, c, d⟩ := i1 b
    exact ⟨rs, c.trans a, d⟩
def rSortedN (K : PySem.W.Frag) : List V → Hp → VK → Prop := fun vs H Q => ∃ (a : Addr) (xs : List V) (ps : List (Int × Str)), vs = [V.ref a] ∧ SqL K H a xs ∧ DpAll K H xs (ps.map numD) ∧ ps.length < 64 ∧
  ∀ (ys : List V) (qs : List (Int × Str)) (p : Addr), qs.Perm ps → (qs.Pairwise fun a b => a.1 ≤ b.1) → DpAll K H ys (qs.map numD) → H p = none → Q (.ref p) (upd H p (.lst ys))
section
variable {X : Cx}
theorem num_raw {pins : List (Addr × Obj)} {σ : L2.St} {H : Hp} {s : Shared} {t : Addr} {y : Str} {i : Int} (I : Inv X pins σ H s) (h : SqT X.K H t [.int i, .str y]) : NumAt s.heap (.ref t) i y := by
  obtain ⟨its, rv, ⟨o, ho, hc, n, hd⟩, _⟩ := I.tuple h
  cases rv with
  | cons r1 r =>
    cases r with
    | cons r2 r3 =>
      cases r3
      obtain ⟨a, rfl⟩ := r1
      obtain ⟨b, rfl⟩ := r2
      exact ⟨t, a, b, o, n, rfl, ho, hc, hd⟩
theorem num_all {pins : List (Addr × Obj)} {σ : L2.St} {H : Hp} {s : Shared} (I : Inv X pins σ H s) : ∀ {xs : List V} {ps : List (Int × Str)} {its : List Value}, DpAll X.K H xs (ps.map numD) → Vals xs its → ∀ v ∈ its, ∃ p, p ∈ ps ∧ NumAt s.heap v p.1 p.2 ∧ ∃ t, v = .ref t
  | [], [], _, _, r, v, hv => by cases r; cases hv
  | x :: xs, p :: ps, _, hd, r, v, hv => by
    cases hd with
    | cons h1 h2 =>
      cases r with
      | cons r1 r2 =>
        obtain ⟨t, rfl, ht⟩ := num_inv h1
        rcases List.mem_cons.mp hv with e | hv
        · have : v = .ref t := by rw [e]; exact r1
          subst this
          exact ⟨p, List.mem_cons_self, num_raw I ht, t, rfl⟩
        · obtain ⟨q, a, b⟩ := num_all I h2 r2 v hv
          exact ⟨q, List.mem_cons_of_mem _ a, b⟩
theorem num_names {pins : List (Addr × Obj)} {σ : L2.St} {H : Hp} {s : Shared} (I : Inv X pins σ H s) : ∀ {xs : List V} {ps : List (Int × Str)} {its : List Value}, DpAll X.K H xs (ps.map numD) → Vals xs its → its.map (nuAt s.heap) = ps
  | [], [], _, _, r => by cases r; rfl
  | x :: xs, p :: ps, _, hd, r => by
    cases hd with
    | cons h1 h2 =>
      cases r with
      | cons r1 r2 =>
        obtain ⟨t, rfl, ht⟩ := num_inv h1
        rw [List.map_cons, num_names I h2 r2]
        congr 1
        rename_i u us
        have : u = .ref t := r1
        rw [this, (num_raw I ht).nu]
theorem cr_sortedN : CallR X (.builtin "sorted") (rSortedN X.K) := by
  intro pins s σ H vs us Q I r h
  obtain ⟨a, xs, ps, rfl, hs, hd, h64, q⟩ := h
  obtain ⟨its, rv, hl, hz⟩ := I.list hs
  rw [Vals.ref1 r]
  have hxl : xs.length = ps.length := by rw [dps_len hd, List.length_map]
  have hil : its.length = ps.length := by rw [← rv.length]; exact hxl
  have refs : ∀ x ∈ xs, ∃ t, x = V.ref t := fun x hx => by
    obtain ⟨i, hi, e⟩ := List.mem_iff_getElem.mp hx
    obtain ⟨d, e1, e2⟩ := dps_get hd (List.getElem?_eq_getElem hi)
    rw [List.getElem?_map] at e1
    cases z : ps[i]? with
    | none => rw [z] at e1; cases e1
    | some p =>
      rw [z] at e1
      cases Option.some.inj e1
      obtain ⟨t, ht, _⟩ := num_inv e2
      exact ⟨t, by rw [← e, ht]⟩
  obtain ⟨e1, e2⟩ := bkV_refs rv refs
  refine sorted_nums (ρ := rankN ps) hl.isList (by omega) (fun v hv => ?_) (fun v hv u hu i y j z p q => ?_) fun out h1 h2 => ?_
  · obtain ⟨p, _, h, _⟩ := num_all I hd rv v hv
    exact ⟨p.1, p.2, h⟩
  · obtain ⟨p1, m1, h1, _⟩ := num_all I hd rv v hv
    obtain ⟨p2, m2, h2, _⟩ := num_all I hd rv u hu
    obtain ⟨a1, a2⟩ := p.inj h1
    obtain ⟨b1, b2⟩ := q.inj h2
    rw [a1, a2, b1, b2]
    exact rankN_iff m1 m2
  · obtain ⟨ep, he'⟩ := PyProof.Rows.sortedAll_at s.heap its out
    have h3 : ∀ u ∈ out.toList, ∃ a, u = Value.ref a := fun u hu => e2 u (h1.mem_iff.mp hu)
    have hp : (out.toList.map bkV).Perm xs := by
      rw [e1]
      exact h1.map bkV
    have hlen : (out.toList.map bkV).length ≤ sizeLine := by
      rw [hp.length_eq]
      exact hz
    obtain ⟨qs, pq, dq⟩ := nums_perm hp hd
    have nm := num_names I dq (bkV_vals h3)
    have asc : qs.Pairwise fun a b => a.1 ≤ b.1 := by
      have pw : (out.toList.map (nuAt s.heap)).Pairwise fun a b => rankN ps a ≤ rankN ps b := by rw [List.pairwise_map]; exact h2
      rw [nm] at pw
      exact pw.imp_of_mem fun {a b} ha hb h => rankN_le (pq.mem_iff.mp ha) (pq.mem_iff.mp hb) h
    exact ⟨.ref _, upd H (s.heap.objs.size + 1) (.lst (out.toList.map bkV)), I.laid (t' := s.toks) (fun _ _ => PyProof.Rows.sortedAll_old) (Nat.le_succ _) ⟨hlen, out.toList, ep, bkV_vals h3, he'⟩, rfl, q _ qs _ pq asc dq (I.hok.fresh (Nat.le_succ _))⟩
theorem k_sortedN (K : PySem.W.Frag) (h : X.K = K := by rfl) : CallR X (.builtin "sorted") (rSortedN K) := by subst h; exact cr_sortedN
end
theorem w_sortedN {K : PySem.W.Frag} {H : Hp} {Q : VK} {a : Addr} {xs : List V} {ps : List (Int × Str)} (hs : SqL K H a xs) (hd : DpAll K H xs (ps.map numD)) (hl : ps.length < 64)
    (h : ∀ (ys : List V) (qs : List (Int × Str)) (p : Addr), qs.Perm ps → (qs.Pairwise fun a b => a.1 ≤ b.1) → DpAll K H ys (qs.map numD) → H p = none → Q (.ref p) (upd H p (.lst ys))) : rSortedN K [.ref a] H Q := ⟨a, xs, ps, rfl, hs, hd, hl, h⟩
end TP

namespace TP
open PySem PySem.Spec PyProof.Rows L2
/-! ### units laid on counts, and names ahead (k72) -/
theorem fold_nodup (zs t : Bag) (h : (keys t).Nodup) : (keys (zs.foldl addT t)).Nodup := by
  unfold keys
  rw [tab_keys]
  exact (namesOf_aux _ _ h).1
theorem fold_mem (zs t : Bag) (h : (keys t).Nodup) (x : Str) : x ∈ keys (zs.foldl addT t) ↔ x ∈ keys t ∨ x ∈ keys zs := by
  unfold keys
  rw [tab_keys]
  exact (namesOf_aux _ _ h).2.1 x
theorem fold_sum : ∀ (zs t : Bag), (keys t).Nodup → sumC (zs.foldl addT t) = sumC t + sumC zs
  | [], t, _ => by simp [sumC]
  | z :: zs, t, h => by
    rw [List.foldl_cons, fold_sum zs (addT t z) (fold_nodup [z] t h), sumC_cons]
    unfold addT
    rw [sumC_put h]; omega
theorem sum_zip : ∀ {ws : List Str} {us : List Int}, ws.length = us.length → sumC (ws.zip us) = us.sum
  | [], [], _ => rfl
  | w :: ws, u :: us, h => by
    rw [List.zip_cons_cons, sumC_cons, List.sum_cons, sum_zip (by simpa using h)]
theorem keys_zip : ∀ {ws : List Str} {us : List Int}, ws.length = us.length → keys (ws.zip us) = ws
  | [], [], _ => rfl
  | w :: ws, u :: us, h => by
    show w :: keys (ws.zip us) = _
    rw [keys_zip (by simpa using h)]
theorem cnt_zip {d : Int} (hd : 0 ≤ d) : ∀ {ws : List Str} {us : List Int}, (∀ u ∈ us, 0 ≤ u ∧ u ≤ d) → ws.Nodup → ∀ n, (0 ≤ cntC (ws.zip us) n ∧ cntC (ws.zip us) n ≤ d) ∧ (n ∉ ws → cntC (ws.zip us) n = 0)
  | [], us, _, _, n => ⟨⟨Int.le_refl _, hd⟩, fun _ => rfl⟩
  | w :: ws, [], _, _, n => ⟨⟨Int.le_refl _, hd⟩, fun _ => rfl⟩
  | w :: ws, u :: us, h, nd, n => by
    have nd' := List.nodup_cons.mp nd
    obtain ⟨i1, i2⟩ := cnt_zip hd (ws := ws) (us := us) (fun v hv => h v (List.mem_cons_of_mem _ hv)) nd'.2 n
    have hu := h u List.mem_cons_self
    rw [List.zip_cons_cons, cntC_cons]
    by_cases e : w = n
    · subst e
      rw [if_pos rfl, i2 nd'.1]
      exact ⟨⟨by omega, by omega⟩, fun z => absurd List.mem_cons_self z⟩
    · rw [if_neg (show ¬ (w, u).1 = n from e)]
      exact ⟨⟨by omega, by omega⟩, fun z => by rw [i2 fun q => z (List.mem_cons_of_mem _ q)]; rfl⟩
theorem cnt_zip_get : ∀ {ws : List Str} {us : List Int}, ws.length = us.length → ws.Nodup → ∀ (i : Nat) (w : Str) (u : Int), ws[i]? = some w → us[i]? = some u → cntC (ws.zip us) w = u
  | w :: ws, u :: us, hl, nd, i, w', u', e1, e2 => by
    have nd' := List.nodup_cons.mp nd
    rw [List.zip_cons_cons, cntC_cons]
    cases i with
    | zero =>
      simp at e1 e2
      subst e1; subst e2
      have out : ∀ {ws : List Str} {us : List Int}, w ∉ ws → cntC (ws.zip us) w = 0 := fun {ws us} => by
        induction ws generalizing us with
        | nil => intro _; rfl
        | cons a r ih =>
          intro h
          cases us with
          | nil => rfl
          | cons b s =>
            rw [List.zip_cons_cons, cntC_cons, if_neg (show ¬ a = w from fun e => h (by rw [e]; exact List.mem_cons_self)), ih fun q => h (List.mem_cons_of_mem _ q)]; rfl
      rw [if_pos rfl, out nd'.1]; omega
    | succ i =>
      simp at e1 e2
      rw [if_neg (show ¬ w = w' from fun e => nd'.1 (by rw [e]; exact List.mem_of_getElem? e1)), cnt_zip_get (by simpa using hl) nd'.2 i w' u' e1 e2]; omega
theorem filt_can (t : Bag) (ys : List Str) : (tabF t ys).filter (fun p => decide (0 < p.2)) = canF (getT t) ys := by
  unfold tabF canF
  induction ys with
  | nil => rfl
  | cons y r ih =>
    rw [List.map_cons, List.filterMap_cons]
    by_cases h : 0 < getT t y
    · rw [List.filter_cons_of_pos (by simpa using h), if_pos h, ih]
    · rw [List.filter_cons_of_neg (by simpa using h), if_neg h, ih]
theorem filt_sum0 : ∀ {l : Bag}, (∀ p ∈ l, 0 ≤ p.2) → sumC (l.filter fun p => decide (0 < p.2)) = sumC l
  | [], _ => rfl
  | p :: r, h => by
    have ih := filt_sum0 (l := r) fun q hq => h q (List.mem_cons_of_mem _ hq)
    have := h p List.mem_cons_self
    by_cases z : 0 < p.2
    · rw [List.filter_cons_of_pos (by simpa using z), sumC_cons, sumC_cons, ih]
    · rw [List.filter_cons_of_neg (by simpa using z), sumC_cons, ih]; omega
theorem tabF_perm {t : Bag} {ys : List Str} (hp : ys.Perm (keys t)) (nd : (keys t).Nodup) : (tabF t ys).Perm t := by
  have e : tabF t (keys t) = t := by
    unfold tabF keys
    rw [List.map_map]
    refine (List.map_congr_left fun p hp => ?_).trans (List.map_id t)
    show (p.1, getT t p.1) = p
    rw [getT_mem nd hp]
  have := hp.map fun y => (y, getT t y)
  show (ys.map _).Perm t
  exact this.trans (by show (tabF t (keys t)).Perm t; rw [e])
structure LoadOk (ps : Bag) (ws : List Str) (us : List Int) (qs : Bag) : Prop where
  ok : BagOk qs
  get : ∀ n, getT qs n = getT ps n + cntC (ws.zip us) n
  sum : sumC qs = sumC ps + us.sum
  len : qs.length ≤ ps.length + ws.length
theorem cnt_nn {zs : Bag} (h : ∀ p ∈ zs, 0 ≤ p.2) (n : Str) : 0 ≤ cntC zs n := by
  induction zs with
  | nil => exact Int.le_refl _
  | cons z r ih =>
    have h1 := ih fun p hp => h p (List.mem_cons_of_mem _ hp)
    have h2 := h z List.mem_cons_self
    rw [cntC_cons]
    split <;> omega
theorem load_ok {ps : Bag} {ws : List Str} {us : List Int} {ys : List Str} (hb : BagOk ps) (hn : ∀ w ∈ ws, isName w = true) (hl : ws.length = us.length) (hu : ∀ u ∈ us, 0 ≤ u)
    (hp : ys.Perm (keys ((ws.zip us).foldl addT ps))) (asc : ys.Pairwise ltS) : LoadOk ps ws us (canF (getT ((ws.zip us).foldl addT ps)) ys) := by
  have nd0 := hb.tab.nd
  have nd := fold_nodup (ws.zip us) ps nd0
  have mem := fold_mem (ws.zip us) ps nd0
  have hs := fold_sum (ws.zip us) ps nd0
  have hg := getT_foldl (ws.zip us) ps
  have hln := foldl_addT_len (ws.zip us) ps
  have hz : ∀ p ∈ ws.zip us, 0 ≤ p.2 := fun p hp => hu _ (List.of_mem_zip hp).2
  rw [sum_zip hl] at hs
  rw [keys_zip hl] at mem
  generalize (ws.zip us).foldl addT ps = t at *
  have g0 : ∀ n, 0 ≤ getT t n := fun n => by
    have h1 := (getT_le hb.pos n).1
    have h2 := cnt_nn hz n
    rw [hg]; omega
  have can := canF_can hp asc
  have v0 : ∀ p ∈ t, 0 ≤ p.2 := fun p hp => by rw [← getT_mem nd hp]; exact g0 _
  refine ⟨can.ok fun p hp' => ?_, fun n => ?_, ?_, ?_⟩
  · rcases (mem p.1).mp (hp.mem_iff.mp (canF_mem hp').1) with h | h
    · obtain ⟨q, hq, e⟩ := List.mem_map.mp h
      rw [← e]; exact hb.nam q hq
    · exact hn _ h
  · rw [can.cnt, posI_of (g0 n), hg]
  · rw [← filt_can, filt_sum0 (fun p hp' => v0 p ((tabF_perm hp nd).mem_iff.mp hp')), sumC_perm (tabF_perm hp nd), hs]
  · have h1 := canF_len (getT t) ys
    have h2 := hp.length_eq
    unfold keys at h2
    rw [List.length_map] at h2
    have h3 : (ws.zip us).length ≤ ws.length := by rw [List.length_zip]; omega
    omega
theorem load_fit {ps qs : Bag} {ws : List Str} {us : List Int} {c d N : Int} (h : LoadOk ps ws us qs) (nd : ws.Nodup) (hu : ∀ u ∈ us, 0 ≤ u ∧ u ≤ d) (hd : 0 ≤ d) (hs : us.sum = d * (c + 1)) (hN : N = sumC ps + d * (c + 1)) : FitB ps d N qs := ⟨by rw [h.sum, hs, hN], fun n => by
  have h1 := (cnt_zip hd hu nd n).1
  have h2 := h.get n
  omega⟩
/-- how many names have more than a name -/
def cntA (qs : Bag) (x : Str) : Int := ((qs.filter fun p => decide (getT qs x < p.2)).length : Nat)
theorem filt_split {α : Type} (a b : α → Bool) : ∀ l : List α, (l.filter a).length = (l.filter fun x => a x && b x).length + (l.filter fun x => a x && !b x).length
  | [] => rfl
  | x :: r => by
    have ih := filt_split a b r
    cases ha : a x <;> cases hb : b x <;> simp [List.filter_cons, ha, hb] <;> omega
theorem sumC_split (b : Str × Int → Bool) : ∀ l : Bag, sumC l = sumC (l.filter b) + sumC (l.filter fun x => !b x)
  | [] => rfl
  | x :: r => by
    have ih := sumC_split b r
    cases hb : b x
    · rw [List.filter_cons_of_neg (by simp [hb]), List.filter_cons_of_pos (by simp [hb]), sumC_cons, sumC_cons]; omega
    · rw [List.filter_cons_of_pos (by simp [hb]), List.filter_cons_of_neg (by simp [hb]), sumC_cons, sumC_cons]; omega
theorem sum_atleast {g : Int} (a : Str × Int → Bool) : ∀ {l : Bag}, (∀ p ∈ l, 0 ≤ p.2 ∧ (a p = true → g ≤ p.2)) → ((l.filter a).length : Int) * g ≤ sumC l
  | [], _ => by simp [sumC]
  | p :: r, h => by
    have ih := sum_atleast a (l := r) fun q hq => h q (List.mem_cons_of_mem _ hq)
    obtain ⟨h1, h2⟩ := h p List.mem_cons_self
    rw [sumC_cons]
    cases ha : a p
    · rw [List.filter_cons_of_neg (by simp [ha])]; omega
    · rw [List.filter_cons_of_pos ha, List.length_cons, Int.natCast_add, Int.add_mul]
      have := h2 ha
      omega
theorem sum_needs (f : Str × Int → Int) (need : Str × Int → Int) (P : Str × Int → Bool) : ∀ {l : Bag}, (∀ q ∈ l, q.2 ≤ f q ∧ (P q = true → q.2 + need q ≤ f q)) → sumC l + ((l.filter P).map need).sum ≤ (l.map f).sum
  | [], _ => by simp [sumC]
  | q :: r, h => by
    have ih := sum_needs f need P (l := r) fun p hp => h p (List.mem_cons_of_mem _ hp)
    obtain ⟨h1, h2⟩ := h q List.mem_cons_self
    rw [sumC_cons, List.map_cons, List.sum_cons]
    cases hP : P q
    · rw [List.filter_cons_of_neg (by simp [hP])]; omega
    · rw [List.filter_cons_of_pos hP, List.map_cons, List.sum_cons]
      have := h2 hP
      omega
theorem cho_in {L S : List Int} (h : PartOf S L) : ((S.length : Int), S.sum) ∈ cho L := by
  unfold cho
  rw [cho_mem]
  exact ⟨(0, 0), List.mem_singleton.mpr rfl, S, h, by simp⟩
theorem ahead_le {c d N : Int} {ps qs : Bag} {x : Str} (hp : BagOk ps) (hq : BagOk qs) (hf : FitB ps d N qs) (hN : N = sumC ps + d * (c + 1)) : cntA qs x ≤ aheadL c d ps x := by
  obtain ⟨hs, hb⟩ := hf
  have tp := hp.tab
  have tq := hq.tab
  have gx := hb x
  have gx0 := (getT_le hp.pos x).1
  obtain ⟨g, eg⟩ : ∃ g, getT ps x + 1 = g := ⟨_, rfl⟩
  have hU : sumC qs - sumC ps = d * (c + 1) := by omega
  let need : Str × Int → Int := fun q => if g - q.2 > 0 then g - q.2 else 0
  let P : Str × Int → Bool := fun q => decide (getT qs x < getT qs q.1)
  let inn : Str × Int → Bool := fun p => decide (p.1 ∈ keys ps)
  let a : Str × Int → Bool := fun p => decide (getT qs x < p.2)
  have ha : ∀ p ∈ qs, a p = P p := fun p hp => by show decide _ = decide _; rw [getT_mem tq.nd hp]
  -- the names ahead: some have counters, the others not
  have h1 := filt_split a inn qs
  have h2 : (qs.filter fun p => a p && inn p).length ≤ (ps.filter P).length := by
    have nd1 : (keys (qs.filter fun p => a p && inn p)).Nodup := tq.nd.sublist (List.filter_sublist.map _)
    have := nodup_sub_len nd1 (b := keys (ps.filter P)) fun n hn => by
      obtain ⟨p, hp', rfl⟩ := List.mem_map.mp hn
      obtain ⟨m1, m2⟩ := List.mem_filter.mp hp'
      rw [Bool.and_eq_true] at m2
      obtain ⟨q, hq', e⟩ := List.mem_map.mp (of_decide_eq_true m2.2)
      refine List.mem_map.mpr ⟨q, List.mem_filter.mpr ⟨hq', ?_⟩, e⟩
      have h3 := m2.1
      rw [ha p m1] at h3
      show decide (getT qs x < getT qs q.1) = true
      rw [e]; exact h3
    unfold keys at this
    rw [List.length_map, List.length_map] at this
    exact this
  -- what lies on the names with counters
  have pin : (ps.map fun q => (q.1, getT qs q.1)).Perm (qs.filter inn) := by
    have k1 : keys (ps.map fun q => (q.1, getT qs q.1)) = keys ps := by unfold keys; rw [List.map_map]; rfl
    have t1 : TabOk (ps.map fun q => (q.1, getT qs q.1)) := ⟨by rw [k1]; exact tp.nd, fun p hp' => by
      obtain ⟨q, hq', rfl⟩ := List.mem_map.mp hp'
      have h3 := (hb q.1).1
      rw [getT_mem tp.nd hq'] at h3
      have := tp.pos q hq'
      show 1 ≤ getT qs q.1
      omega⟩
    have nd2 : (keys (qs.filter inn)).Nodup := tq.nd.sublist (List.filter_sublist.map _)
    have t2 : TabOk (qs.filter inn) := ⟨nd2, fun p hp' => tq.pos p (List.mem_filter.mp hp').1⟩
    refine tab_perm t1 t2 fun n => ?_
    by_cases hn : n ∈ keys ps
    · obtain ⟨q, hq', e⟩ := List.mem_map.mp hn
      have e1 : getT (ps.map fun q => (q.1, getT qs q.1)) n = getT qs n := by
        rw [← e]
        exact getT_mem (p := (q.1, getT qs q.1)) t1.nd (List.mem_map.mpr ⟨q, hq', rfl⟩)
      rw [e1]
      by_cases hn2 : n ∈ keys qs
      · obtain ⟨p, hp', e2⟩ := List.mem_map.mp hn2
        rw [← e2, getT_mem tq.nd hp', getT_mem nd2 (List.mem_filter.mpr ⟨hp', decide_eq_true (show p.1 ∈ keys ps by rw [e2]; exact hn)⟩)]
      · rw [getT_no hn2, getT_no fun z => hn2 (by
          obtain ⟨p, hp', e2⟩ := List.mem_map.mp z
          exact List.mem_map.mpr ⟨p, (List.mem_filter.mp hp').1, e2⟩)]
    · rw [getT_no (by rw [k1]; exact hn), getT_no fun z => hn (by
        obtain ⟨p, hp', e2⟩ := List.mem_map.mp z
        rw [← e2]; exact of_decide_eq_true (List.mem_filter.mp hp').2)]
  have s1 := sumC_split inn qs
  have s2 : sumC (qs.filter inn) = (ps.map fun q => getT qs q.1).sum := by
    rw [← sumC_perm pin]
    unfold sumC
    rw [List.map_map]; rfl
  have hneed : ∀ q ∈ ps, q.2 ≤ getT qs q.1 ∧ (P q = true → q.2 + need q ≤ getT qs q.1) := fun q hq' => by
    have h3 := (hb q.1).1
    rw [getT_mem tp.nd hq'] at h3
    refine ⟨h3, fun z => ?_⟩
    have := of_decide_eq_true z
    show q.2 + (if g - q.2 > 0 then g - q.2 else 0) ≤ _
    split <;> omega
  have s3 := sum_needs (fun q => getT qs q.1) need P hneed
  have s4 := sum_atleast (g := g) (fun p => a p) (l := qs.filter fun p => !inn p) fun p hp' => by
    have m1 := (List.mem_filter.mp hp').1
    have := tq.pos p m1
    refine ⟨by omega, fun z => ?_⟩
    have := of_decide_eq_true z
    omega
  have e5 : (qs.filter fun p => !inn p).filter a = qs.filter fun p => a p && !inn p := by
    rw [List.filter_filter]
  rw [e5] at s4
  generalize hF : (qs.filter fun p => a p && !inn p) = F at s4 h1
  have lowU : ((ps.filter P).map need).sum + (F.length : Int) * g ≤ d * (c + 1) := by omega
  -- the needs are a part of all needs
  have dle : ∀ q ∈ ps, P q = true → (!decide (q.1 = x)) = true ∧ need q ≤ d := fun q hq' z => by
    constructor
    · cases e : decide (q.1 = x) with
      | false => rfl
      | true =>
        have e := of_decide_eq_true e
        have z := of_decide_eq_true z
        rw [e] at z
        omega
    · have h3 := (hneed q hq').2 z
      have h4 := (hb q.1).2
      rw [getT_mem tp.nd hq'] at h4
      omega
  have part : PartOf ((ps.filter P).map need) ((needL g ps x).filter fun n => decide (n ≤ d)) := by
    unfold needL
    rw [List.filter_map]
    have e6 : ps.filter P = ((ps.filter fun p => !decide (p.1 = x)).filter ((fun n => decide (n ≤ d)) ∘ need)).filter P := by
      rw [List.filter_filter, List.filter_filter]
      refine List.filter_congr fun q hq' => ?_
      cases z : P q with
      | false => rfl
      | true =>
        obtain ⟨z1, z2⟩ := dle q hq' z
        rw [z1]
        show true = (true && decide (need q ≤ d) && true)
        rw [decide_eq_true z2]; rfl
    refine ⟨(((ps.filter fun p => !decide (p.1 = x)).filter ((fun n => decide (n ≤ d)) ∘ need)).filter fun q => !P q).map need, ?_⟩
    rw [e6, ← List.map_append]
    exact (List.filter_append_perm P _).map _
  have best := (best_fold (g := g) (d := d) (U := d * (c + 1)) (cho ((needL g ps x).filter fun n => decide (n ≤ d))) 0).2.1 _ (cho_in part) (by
    show ((ps.filter P).map need).sum ≤ _
    have : 0 ≤ (F.length : Int) * g := Int.mul_nonneg (by omega) (by omega)
    omega)
  have eL : aheadL c d ps x = (cho ((needL g ps x).filter fun n => decide (n ≤ d))).foldl (bestF g d (d * (c + 1))) 0 := by unfold aheadL; rw [eg]
  rw [eL]
  refine Int.le_trans ?_ best
  have hcA : cntA qs x = ((qs.filter a).length : Nat) := rfl
  rw [hcA]
  unfold worth
  show _ ≤ (((ps.filter P).map need).length : Int) + if g ≤ d then (d * (c + 1) - ((ps.filter P).map need).sum) / g else 0
  rw [List.length_map]
  by_cases hg : g ≤ d
  · rw [if_pos hg]
    have : (F.length : Int) ≤ (d * (c + 1) - ((ps.filter P).map need).sum) / g := Int.le_ediv_of_mul_le (by omega) (by omega)
    omega
  · rw [if_neg hg]
    have : F.length = 0 := by
      cases F with
      | nil => rfl
      | cons p r =>
        exfalso
        have hm : p ∈ qs.filter fun p => a p && !inn p := by rw [hF]; exact List.mem_cons_self
        obtain ⟨m1, m2⟩ := List.mem_filter.mp hm
        rw [Bool.and_eq_true] at m2
        have m3 := of_decide_eq_true m2.1
        have m4 : p.1 ∉ keys ps := fun z => by
          have := m2.2
          rw [show inn p = true from decide_eq_true z] at this
          cases this
        have h4 := (hb p.1).2
        rw [getT_mem tq.nd m1, getT_no m4] at h4
        omega
    omega
end TP

namespace TP
open PySem PySem.Spec PyProof.Rows L2
/-! ### as many names ahead as possible (k72) -/
theorem grd_app (d : Int) (z : Int × Int) (a b : List Int) : grd d z (a ++ b) = grd d (grd d z a) b := by unfold grd; rw [List.foldl_append]
theorem grd_mono {d : Int} : ∀ (ns : List Int) (z : Int × Int), z.2 ≤ (grd d z ns).2
  | [], z => Int.le_refl _
  | n :: r, z => by
    rw [grd_cons]
    split
    · have := grd_mono (d := d) r (z.1 - n, z.2 + 1)
      have e : ((z.1 - n, z.2 + 1) : Int × Int).2 = z.2 + 1 := rfl
      omega
    · exact grd_mono r z
theorem grd_left {d : Int} : ∀ (ns : List Int) (z : Int × Int), (∀ n ∈ ns, 0 ≤ n) → 0 ≤ z.1 → 0 ≤ (grd d z ns).1 ∧ (grd d z ns).1 ≤ z.1
  | [], z, _, h => ⟨h, Int.le_refl _⟩
  | n :: r, z, hn, h => by
    rw [grd_cons]
    have h1 := hn n List.mem_cons_self
    split
    · have := grd_left (d := d) r (z.1 - n, z.2 + 1) (fun m hm => hn m (List.mem_cons_of_mem _ hm)) (by show 0 ≤ z.1 - n; omega)
      have e : ((z.1 - n, z.2 + 1) : Int × Int).1 = z.1 - n := rfl
      omega
    · exact grd_left r z (fun m hm => hn m (List.mem_cons_of_mem _ hm)) h
theorem grd_rep {d g : Int} (hg : 1 ≤ g) (hgd : g ≤ d) : ∀ (m : Nat) (left k : Int), 0 ≤ left → left ≤ m → k + left / g ≤ (grd d (left, k) (List.replicate m g)).2
  | 0, left, k, h0, h1 => by
    have e : left = 0 := by omega
    subst e
    show k + 0 / g ≤ k
    rw [Int.zero_ediv]; omega
  | m + 1, left, k, h0, h1 => by
    rw [List.replicate_succ, grd_cons]
    by_cases h : g ≤ left
    · rw [if_pos (show g ≤ min d left by omega)]
      have ih := grd_rep hg hgd m (left - g) (k + 1) (by omega) (by omega)
      have e : left / g = (left - g) / g + 1 := by
        have := Int.add_mul_ediv_right (left - g) 1 (c := g) (by omega)
        rw [Int.one_mul, Int.sub_add_cancel] at this
        exact this
      show k + left / g ≤ (grd d (left - g, k + 1) (List.replicate m g)).2
      omega
    · rw [if_neg (show ¬ g ≤ min d left by omega), Int.ediv_eq_zero_of_lt h0 (by omega)]
      have := grd_mono (d := d) (List.replicate m g) (left, k)
      have e : ((left, k) : Int × Int).2 = k := rfl
      omega
theorem ahead_full {c d : Int} {ps : Bag} {x : Str} {ns : List Int} {m : Nat} (hp : ∀ p ∈ ps, 1 ≤ p.2) (hU : 0 ≤ d * (c + 1)) (hm : d * (c + 1) ≤ m)
    (hperm : ns.Perm (needL (getT ps x + 1) ps x ++ List.replicate m (getT ps x + 1))) (hs : ns.Pairwise (· ≤ ·)) : aheadL c d ps x ≤ (grd d (d * (c + 1), 0) ns).2 := by
  have gx0 := (getT_le hp x).1
  unfold aheadL
  obtain ⟨g, eg⟩ : ∃ g, getT ps x + 1 = g := ⟨_, rfl⟩
  rw [eg] at hperm ⊢
  have hg : 1 ≤ g := by omega
  have hb := need_bnd (x := x) hp hg
  have hP : ((needL g ps x).mergeSort (fun a b => decide (a ≤ b))).Perm (needL g ps x) := List.mergeSort_perm _ _
  have hS : ((needL g ps x).mergeSort (fun a b => decide (a ≤ b))).Pairwise (· ≤ ·) := by
    have h := List.pairwise_mergeSort (le := fun a b : Int => decide (a ≤ b)) (fun a b c h1 h2 => by simp only [decide_eq_true_eq] at *; omega) (fun a b => by simp only [Bool.or_eq_true, decide_eq_true_eq]; omega) (needL g ps x)
    exact h.imp fun h => of_decide_eq_true h
  generalize (needL g ps x).mergeSort (fun a b => decide (a ≤ b)) = nsH at hP hS
  have hbH : ∀ n ∈ nsH, 0 ≤ n ∧ n ≤ g := fun n hn => hb n (hP.mem_iff.mp hn)
  have e : ns = nsH ++ List.replicate m g := by
    refine List.Perm.eq_of_pairwise (le := (· ≤ ·)) (fun a b _ _ h1 h2 => Int.le_antisymm h1 h2) hs ?_ (hperm.trans (hP.symm.append_right _))
    rw [List.pairwise_append]
    exact ⟨hS, List.pairwise_replicate.mpr (.inr (Int.le_refl _)), fun a ha b hb' => by rw [List.eq_of_mem_replicate hb']; exact (hbH a ha).2⟩
  rw [ahead_eq (d := d) (U := d * (c + 1)) hg hU hP hS hb, e, grd_app]
  have h1 := grd_left (d := d) nsH (d * (c + 1), 0) (fun n hn => (hbH n hn).1) hU
  generalize grd d (d * (c + 1), 0) nsH = z at h1
  obtain ⟨left, k⟩ := z
  have h1a : 0 ≤ left := h1.1
  have h1b : left ≤ d * (c + 1) := h1.2
  unfold worth
  show k + (if g ≤ d then (d * (c + 1) - (d * (c + 1) - left)) / g else 0) ≤ _
  rw [show d * (c + 1) - (d * (c + 1) - left) = left by omega]
  split
  · rename_i hgd
    exact grd_rep hg hgd m left k h1a (by omega)
  · have := grd_mono (d := d) (List.replicate m g) (left, k)
    have e : ((left, k) : Int × Int).2 = k := rfl
    omega
/-! the used units -/
def cz : List Int → List Int → Int
  | n :: ns, v :: vs => (if n ≤ v then 1 else 0) + cz ns vs
  | _, _ => 0
theorem cz_snoc {n v : Int} : ∀ {a b : List Int}, a.length = b.length → cz (a ++ [n]) (b ++ [v]) = cz a b + if n ≤ v then 1 else 0
  | [], [], _ => by simp [cz]
  | x :: a, y :: b, h => by
    rw [List.cons_append, List.cons_append]
    unfold cz
    rw [cz_snoc (by simpa using h)]; omega
theorem cz_mono {w : Int} : ∀ {ns vs : List Int} {i : Nat} {v : Int}, vs[i]? = some v → v ≤ w → cz ns vs ≤ cz ns (vs.set i w)
  | [], vs, i, v, _, _ => by unfold cz; exact Int.le_refl _
  | n :: ns, [], i, v, h, _ => by simp at h
  | n :: ns, u :: vs, 0, v, h, hw => by
    simp at h
    subst h
    rw [List.set_cons_zero]
    unfold cz
    split <;> split <;> omega
  | n :: ns, u :: vs, i + 1, v, h, hw => by
    rw [List.set_cons_succ]
    unfold cz
    have := cz_mono (ns := ns) (vs := vs) (i := i) (v := v) (by simpa using h) hw
    omega
theorem sum_setI {w : Int} : ∀ {vs : List Int} {i : Nat} {v : Int}, vs[i]? = some v → (vs.set i w).sum = vs.sum - v + w
  | [], i, v, h => by simp at h
  | u :: vs, 0, v, h => by
    simp at h
    subst h
    rw [List.set_cons_zero, List.sum_cons, List.sum_cons]; omega
  | u :: vs, i + 1, v, h => by
    rw [List.set_cons_succ, List.sum_cons, List.sum_cons, sum_setI (i := i) (by simpa using h)]; omega
theorem set_take {vs : List Int} {i : Nat} {w : Int} (h : i < vs.length) : (vs.set i w).take (i + 1) = vs.take i ++ [w] := by
  rw [List.take_succ_eq_append_getElem (by simpa using h)]
  simp only [List.getElem_set_self, List.take_set]
  rw [List.set_eq_of_length_le (by rw [List.length_take]; omega)]
structure UsedA (d U : Int) (ns : List Int) (i : Nat) (vs : List Int) (left : Int) : Prop where
  len : vs.length = ns.length
  bnd : ∀ v ∈ vs, 0 ≤ v ∧ v ≤ d
  zero : ∀ (j : Nat) (v : Int), i ≤ j → vs[j]? = some v → v = 0
  sum : vs.sum = U - left
  lft : left = (grd d (U, 0) (ns.take i)).1
  cnt : (grd d (U, 0) (ns.take i)).2 ≤ cz (ns.take i) (vs.take i)
  l0 : 0 ≤ left
theorem UsedA.init {d U : Int} {ns : List Int} (hd : 0 ≤ d) (hU : 0 ≤ U) : UsedA d U ns 0 (List.replicate ns.length 0) U := ⟨List.length_replicate, fun v hv => by rw [List.eq_of_mem_replicate hv]; omega, fun j v _ e => List.eq_of_mem_replicate (List.mem_of_getElem? e), by
    rw [List.sum_replicate_int]; omega, rfl, by show (0 : Int) ≤ cz _ _; rw [List.take_zero]; unfold cz; exact Int.le_refl _, hU⟩
theorem UsedA.step {d U : Int} {ns vs : List Int} {i : Nat} {left n : Int} (h : UsedA d U ns i vs left) (e : ns[i]? = some n) (hn : 0 ≤ n) :
    (n ≤ min d left → UsedA d U ns (i + 1) (vs.set i n) (left - n)) ∧ (¬ n ≤ min d left → UsedA d U ns (i + 1) vs left) := by
  obtain ⟨hi, _⟩ := List.getElem?_eq_some_iff.mp e
  have hl := h.len
  have ev : vs[i]? = some 0 := by
    have e2 : vs[i]? = some vs[i] := List.getElem?_eq_getElem (by omega)
    rw [e2, h.zero i _ (Nat.le_refl _) e2]
  have tk : ns.take (i + 1) = ns.take i ++ [n] := take_succ_snoc e
  have cl : (ns.take i).length = (vs.take i).length := by rw [List.length_take, List.length_take, hl]
  have lft := h.lft
  have cnt := h.cnt
  constructor
  · intro z
    refine ⟨by rw [List.length_set, hl], fun v hv => ?_, fun j v hj ej => ?_, by rw [sum_setI ev, h.sum]; omega, ?_, ?_, by omega⟩
    · rcases List.mem_or_eq_of_mem_set hv with hv | rfl
      · exact h.bnd v hv
      · omega
    · rw [List.getElem?_set_ne (by omega)] at ej
      exact h.zero j v (by omega) ej
    · rw [tk, grd_snoc, ← lft, if_pos z]
    · rw [tk, grd_snoc, ← lft, if_pos z, set_take (by omega), cz_snoc cl, if_pos (Int.le_refl n)]
      show (grd d (U, 0) (ns.take i)).2 + 1 ≤ _
      omega
  · intro z
    refine ⟨hl, h.bnd, fun j v hj ej => h.zero j v (by omega) ej, h.sum, ?_, ?_, h.l0⟩
    · rw [tk, grd_snoc, ← lft, if_neg z]; exact lft
    · rw [tk, grd_snoc, ← lft, if_neg z, take_succ_snoc ev, cz_snoc cl]
      split <;> omega
structure UsedB (d U : Int) (ns : List Int) (G : Int) (i : Nat) (vs : List Int) (left : Int) : Prop where
  len : vs.length = ns.length
  bnd : ∀ v ∈ vs, 0 ≤ v ∧ v ≤ d
  sum : vs.sum = U - left
  cnt : G ≤ cz ns vs
  l0 : 0 ≤ left
  full : left = 0 ∨ ∀ (j : Nat) (v : Int), j < i → vs[j]? = some v → v = d
theorem UsedA.done {d U : Int} {ns vs : List Int} {left : Int} (h : UsedA d U ns ns.length vs left) : UsedB d U ns (grd d (U, 0) ns).2 0 vs left := by
  have cnt := h.cnt
  have hl := h.len
  rw [List.take_length, ← hl, List.take_length] at cnt
  exact ⟨h.len, h.bnd, h.sum, cnt, h.l0, .inr fun j v hj => absurd hj (Nat.not_lt_zero _)⟩
theorem UsedB.step {d U G : Int} {ns vs : List Int} {i : Nat} {left v : Int} (h : UsedB d U ns G i vs left) (e : vs[i]? = some v) : UsedB d U ns G (i + 1) (vs.set i (v + min left (d - v))) (left - min left (d - v)) := by
  obtain ⟨hi, _⟩ := List.getElem?_eq_some_iff.mp e
  have hv := h.bnd v (List.mem_of_getElem? e)
  have l0 := h.l0
  have hs := h.sum
  refine ⟨by rw [List.length_set, h.len], fun u hu => ?_, by rw [sum_setI e, hs]; omega, Int.le_trans h.cnt (cz_mono e (by omega)), by omega, ?_⟩
  · rcases List.mem_or_eq_of_mem_set hu with hu | rfl
    · exact h.bnd u hu
    · omega
  · rcases h.full with z | z
    · left; omega
    · by_cases q : left ≤ d - v
      · left; omega
      · right
        intro j u hj ej
        by_cases ei : j = i
        · subst ei
          rw [List.getElem?_set_self hi] at ej
          have := Option.some.inj ej
          omega
        · rw [List.getElem?_set_ne (fun z => ei z.symm)] at ej
          exact z j u (by omega) ej
theorem UsedB.done {d U G : Int} {ns vs : List Int} {left : Int} (h : UsedB d U ns G ns.length vs left) (hU : U ≤ d * ns.length) : vs.sum = U := by
  have hs := h.sum
  have l0 := h.l0
  rcases h.full with z | z
  · omega
  · have e : vs = List.replicate ns.length d := List.eq_replicate_iff.mpr ⟨h.len, fun v hv => by
      obtain ⟨j, hj, e⟩ := List.mem_iff_getElem.mp hv
      exact z j v (by rw [← h.len]; exact hj) (by rw [List.getElem?_eq_getElem hj, e])⟩
    have : vs.sum = d * ns.length := by rw [e, List.sum_replicate_int, Int.mul_comm]
    omega
theorem zip_map {b : Str} {w : Int} : ∀ {bs : List Str} {vs : List Int}, b ∉ bs → (bs.zip vs).map (fun p => if p.1 = b then (p.1, w) else p) = bs.zip vs
  | [], vs, _ => rfl
  | x :: bs, [], _ => rfl
  | x :: bs, v :: vs, h => by
    rw [List.zip_cons_cons, List.map_cons, if_neg (show ¬ (x, v).1 = b from fun e => h (by rw [← e]; exact List.mem_cons_self)), zip_map fun q => h (List.mem_cons_of_mem _ q)]
theorem zip_set {b : Str} {w : Int} : ∀ {bs : List Str} {vs : List Int} {i : Nat}, bs.Nodup → vs.length = bs.length → bs[i]? = some b → (bs.zip vs).map (fun p => if p.1 = b then (p.1, w) else p) = bs.zip (vs.set i w)
  | [], vs, i, _, _, e => by simp at e
  | x :: bs, [], i, _, hl, _ => by simp at hl
  | x :: bs, v :: vs, 0, nd, hl, e => by
    simp at e
    subst e
    rw [List.set_cons_zero, List.zip_cons_cons, List.zip_cons_cons, List.map_cons, if_pos rfl, zip_map (List.nodup_cons.mp nd).1]
  | x :: bs, v :: vs, i + 1, nd, hl, e => by
    have nd' := List.nodup_cons.mp nd
    have e' : bs[i]? = some b := by simpa using e
    rw [List.set_cons_succ, List.zip_cons_cons, List.zip_cons_cons, List.map_cons, if_neg (show ¬ (x, v).1 = b from fun z => nd'.1 (by rw [show x = b from z]; exact List.mem_of_getElem? e')), zip_set nd'.2 (by simpa using hl) e']
theorem zip_get {b : Str} {v : Int} {bs : List Str} {vs : List Int} {i : Nat} (nd : bs.Nodup) (hl : vs.length = bs.length) (e : bs[i]? = some b) (ev : vs[i]? = some v) : getT (bs.zip vs) b = v := by
  have hm : (b, v) ∈ bs.zip vs := by
    refine List.mem_of_getElem? (i := i) ?_
    rw [List.getElem?_zip_eq_some]
    exact ⟨e, ev⟩
  have := getT_mem (t := bs.zip vs) (p := (b, v)) (by show (keys (bs.zip vs)).Nodup; rw [keys_zip hl.symm]; exact nd) hm
  exact this
theorem zip_put {b : Str} {w : Int} {bs : List Str} {vs : List Int} {i : Nat} (nd : bs.Nodup) (hl : vs.length = bs.length) (e : bs[i]? = some b) : putT (bs.zip vs) b w = bs.zip (vs.set i w) := by
  have hk : b ∈ keys (bs.zip vs) := by rw [keys_zip hl.symm]; exact List.mem_of_getElem? e
  unfold putT
  rw [if_pos, zip_set nd hl e]
  rw [List.any_eq_true]
  obtain ⟨q, hq, eq⟩ := List.mem_map.mp hk
  exact ⟨q, hq, decide_eq_true eq⟩
def aheadN (cs : List (Int × Str)) (vs : List Int) : List Str := ((cs.zip vs).filter fun q => decide (q.1.1 ≤ q.2)).map (·.1.2)
theorem aheadN_len : ∀ {cs : List (Int × Str)} {vs : List Int}, ((aheadN cs vs).length : Int) = cz (cs.map (·.1)) vs
  | [], vs => by unfold aheadN; simp [cz]
  | c :: cs, [] => by unfold aheadN; simp [cz]
  | c :: cs, v :: vs => by
    have ih := aheadN_len (cs := cs) (vs := vs)
    unfold aheadN at ih ⊢
    rw [List.zip_cons_cons, List.map_cons]
    unfold cz
    by_cases h : c.1 ≤ v
    · rw [List.filter_cons_of_pos (by simpa using h), List.map_cons, List.length_cons, if_pos h]; omega
    · rw [List.filter_cons_of_neg (by simpa using h), if_neg h]; omega
theorem raised_ahead {g : Int} {ps hard : Bag} {cs : List (Int × Str)} {vs : List Int} {x : Str} (hok : BagOk hard) (hl : vs.length = cs.length) (nd : (cs.map (·.2)).Nodup) (eg : getT ps x + 1 = g) (g1 : 1 ≤ g)
    (hneed : ∀ q ∈ cs, g - getT ps q.2 ≤ q.1) (hget : ∀ (i : Nat) (q : Int × Str) (v : Int), cs[i]? = some q → vs[i]? = some v → getT hard q.2 = getT ps q.2 + v) (hx : getT hard x = getT ps x) : cz (cs.map (·.1)) vs ≤ cntA hard x := by
  rw [← aheadN_len]
  have sub : (aheadN cs vs).Nodup := by
    have h1 : ((cs.zip vs).map (·.1.2)).Nodup := by
      have : (cs.zip vs).map (·.1.2) = cs.map (·.2) := by
        have e := List.map_fst_zip (l₁ := cs) (l₂ := vs) (by omega)
        have e2 := congrArg (List.map (·.2)) e
        rw [List.map_map] at e2
        exact e2
      rw [this]; exact nd
    exact h1.sublist (List.filter_sublist.map _)
  have := nodup_sub_len sub (b := keys (hard.filter fun p => decide (getT hard x < p.2))) fun n hn => by
    obtain ⟨q, hq, rfl⟩ := List.mem_map.mp hn
    obtain ⟨m1, m2⟩ := List.mem_filter.mp hq
    have m2 := of_decide_eq_true m2
    obtain ⟨i, hi⟩ := List.mem_iff_getElem?.mp m1
    have hi2 := List.getElem?_zip_eq_some.mp hi
    have h1 := hget i q.1 q.2 hi2.1 hi2.2
    have h2 := hneed q.1 (List.mem_of_getElem? hi2.1)
    have h3 : getT hard x < getT hard q.1.2 := by omega
    by_cases k : q.1.2 ∈ keys hard
    · obtain ⟨p, hp, e⟩ := List.mem_map.mp k
      refine List.mem_map.mpr ⟨p, List.mem_filter.mpr ⟨hp, decide_eq_true ?_⟩, e⟩
      rw [← getT_mem hok.tab.nd hp, e]; exact h3
    · rw [getT_no k] at h3
      omega
  unfold keys at this
  rw [List.length_map] at this
  unfold cntA
  omega
def isQd (w : Str) : Bool := decide (w ∈ [("qa" : Str), "qb", "qc", "qd"])
/-! a list of tables -/
section
variable {J : It} {n : Nat} {G : Hp → Prop} {Y : Nat → Hp → V → Hp → Prop} {g : TG} {te : TE} {vs : List Nat} {σ : L2.St} {H1 : Hp} {D : Addr} {Q : VK}
theorem lc_dks (w : Walk J n G Y) (hn : n ≤ 100000) (R : Nat → Bag → Prop) (hD : H1 D = none) (hG : ∀ H, Same H1 H → G H)
    (hs : ∀ i x H H', i < n → Same H1 H → Y i H x H' → ∀ Qy : VK, (∀ l t H4, Same H H4 → H4 l = some (.dK (kvOf t)) → R i t → Qy (.ref l) H4) → g x (wipe σ vs) H' fun σ2 H2 => wipe σ2 vs = wipe σ vs ∧ te σ2 H2 Qy)
    (hd : ∀ acc H, Same H1 H → H D = some (.lst acc) → acc.length = n → (∀ (i : Nat) (y : V), acc[i]? = some y → ∃ l t, y = .ref l ∧ H l = some (.dK (kvOf t)) ∧ R i t) → Q (.ref D) H)
    (mono : ∀ {x σ H} {Q Q' : L2.St → Hp → Prop}, (∀ σ H, Q σ H → Q' σ H) → g x σ H Q → g x σ H Q') : LcOk J g tYes te vs σ H1 D Q := by
  let Acc : Nat → List V → Hp → Prop := fun i acc H => acc.length = i ∧ ∀ (j : Nat) (y : V), acc[j]? = some y → ∃ l t, y = .ref l ∧ l ≠ D ∧ H l = some (.dK (kvOf t)) ∧ R j t
  refine lc_go w Acc hD hG ⟨rfl, fun j y e => by simp at e⟩ (fun i x H H' acc hi s e l a hy => ?_) fun acc H s e _ a => hd acc H s e a.1 fun i y e => by
    obtain ⟨l, t, h1, _, h2, h3⟩ := a.2 i y e
    exact ⟨l, t, h1, h2, h3⟩
  refine mono (fun σ2 H2 q => ⟨q.1, w_yes (w_iteT q.2)⟩) (hs i x H H' hi s hy (fun y H4 => LcY H1 D Acc i y H4) fun m t H4 s4 em rm => ?_)
  have e4 := s4 _ _ e
  have hm : m ≠ D := fun z => by
    rw [z, e4] at em
    cases em
  refine lc_y (Acc := Acc) hD (s.trans s4) e4 l (by omega) ⟨by simp [a.1], fun j z ej => ?_⟩
  by_cases q : j < acc.length
  · rw [List.getElem?_append_left q] at ej
    obtain ⟨l2, t2, r1, r2, r3, r4⟩ := a.2 j z ej
    exact ⟨l2, t2, r1, r2, by rw [upd_ne r2]; exact s4 _ _ r3, r4⟩
  · rw [List.getElem?_append_right (Nat.le_of_not_lt q)] at ej
    have q2 : j = acc.length := by
      obtain ⟨h1, _⟩ := List.getElem?_eq_some_iff.mp ej
      simp at h1; omega
    subst q2
    simp at ej
    subst ej
    exact ⟨m, t, rfl, hm, by rw [upd_ne hm]; exact em, by rw [a.1]; exact rm⟩
end
end TP


namespace TP
open PySem PySem.Spec PyProof.Rows L2
local macro_rules | `(tactic| tm_at "side") => `(tactic| first | decide | omega | assumption | (unfold CMul; omega) | (unfold CDiv; omega) | (unfold CPow; omega))
local macro_rules | `(tactic| tm_at "heap") => `(tactic| first | assumption | exact upd_same | (refine hp_new ?_ (by assumption); tm_at "heap") | (refine hp_same (by assumption) ?_; tm_at "heap"))
local macro_rules | `(tactic| tm_at "same") => `(tactic| first | assumption | exact Same.refl _ | (refine same_step ?_ (by assumption); tm_at "same") | (refine Same.trans ?_ (by assumption); tm_at "same"))
local macro_rules | `(tactic| tm_at "sqt") => `(tactic| first | assumption | (refine SqT.of ?_; tm_at "heap") | (refine sqt_same (same_new (by assumption)) ?_; tm_at "sqt") | (refine sqt_same (by assumption) ?_; tm_at "sqt"))
local macro_rules | `(tactic| tm_at "sql") => `(tactic| first | assumption | (refine SqL.of ?_; tm_at "heap") | (refine Same.seq (same_new (by assumption)) ?_; tm_at "sql") | (refine Same.seq (by assumption) ?_; tm_at "sql"))
local macro_rules | `(tactic| tm_at "dp") => `(tactic| first | assumption | exact Dp.int _ | exact Dp.str _ | exact Dp.bl _ | exact Dp.non | (refine dp_same (same_new (by assumption)) ?_; tm_at "dp") | (refine dp_same (by assumption) ?_; tm_at "dp"))
local macro_rules | `(tactic| tm_at "sumo") => `(tactic| first | assumption | (refine sum_same (same_new (by assumption)) ?_; tm_at "sumo") | (refine sum_same (by assumption) ?_; tm_at "sumo"))
local macro_rules | `(tactic| tm_at "h") => `(tactic| with_reducible first | (exact SqL.of (by with_reducible_and_instances tm_at "heap")) | tm_at "heap" | tm_at "dp" | tm_at "sumo" | tm_at "sql" | tm_at "sqt" | tm_at "same")
local macro_rules | `(tactic| tm_at "wp1") => `(tactic| with_reducible first
  | refine w_seq ?_ | refine w_asg ?_ | refine w_c ?_ | refine w_op ?_ | refine w_cons ?_ | refine w_nil ?_ | refine w_gname ?_ | refine w_nx ?_ | refine w_rt ?_ | refine w_I0 ?_
  | refine w_eqI ?_ | refine w_neI ?_ | refine w_eqS ?_ | refine w_neS ?_ | refine w_neBl ?_ | refine w_eqBl ?_ | refine w_CB ?_ | refine w_call ?_ | refine w_tcallW ?_ | refine w_bl ?_ | refine w_ret ?_ | refine w_retN ?_ | refine w_ifS ?_
  | refine w_test ?_ | refine w_B ?_ | refine w_andV ?_ | refine w_orV ?_ | refine w_notV ?_ | refine w_if ?_ | refine w_and ?_ | refine w_or ?_ | refine w_not ?_ | refine w_chain ?_ | refine w_iteT ?_ | refine w_iteF ?_ | refine w_nott ?_ | refine w_notf ?_
  | refine w_next ?_ | refine w_tup ?_ | refine w_lst ?_ | refine w_gcons ?_ | refine w_gnil ?_ | refine w_gsub ?_ | refine w_drop ?_ | refine w_tpar ?_ | refine w_tpar3 ?_ | refine w_p2 ?_ | refine w_p3 ?_ | refine w_un ?_ | refine w_U ?_
  | refine w_break ?_ | refine w_cont ?_ | refine w_bk ?_ | refine w_ct ?_ | refine w_isB ?_ | refine w_notB ?_ | refine w_BM ?_ | refine w_BM0 ?_ | refine w_sl ?_ | refine w_nopart ?_ | refine w_tpart ?_ | refine w_intC ?_ | refine w_M1 ?_ | refine w_strx ?_
  | refine w_for ?_ | refine w_lc ?_ | refine w_yes ?_ | refine w_iTup ?_ | refine w_iList ?_ | refine w_iStr ?_ | refine w_iRng1 ?_ | refine w_iRng2 ?_ | refine w_iEnumT ?_ | refine w_onS ?_
  | refine w_abs ?_ | refine w_mx3 ?_ | refine w_mn3 ?_ | refine w_iZip ?_ | refine w_sc ?_ | refine w_mx2 ?_ | refine w_mn2 ?_ | refine w_int1 ?_ | refine w_intB ?_ | refine w_inSign ?_ | refine w_notInSign ?_ | refine w_isNN ?_ | refine w_isNI ?_ | refine w_isNR ?_ | refine w_isN ?_ | refine w_notNN ?_ | refine w_notNI ?_ | refine w_notNR ?_ | refine w_notN ?_ | refine w_ltS ?_ | refine w_leS ?_
  | refine w_fmt ?_ | refine w_joined ?_ | refine w_jcons ?_ | refine w_jnil ?_ | refine w_strS ?_ | refine w_orT ?_ | refine w_andT ?_ | refine w_dput ?_ | refine w_ckw ?_ | refine w_fldN ?_ | refine w_sfld ?_ | refine w_mtN ?_ | refine w_mkN ?_ | refine w_din ?_ | refine w_dnotin ?_ | refine w_iKeys ?_ | refine w_dc ?_ | refine w_whc ?_ | refine w_dget ?_ | refine w_tru ?_ | refine w_truB ?_ | refine w_truI ?_ | refine w_stepT2 ?_ | refine w_dget2 ?_ | refine w_ddel ?_ | refine w_daug ?_ | refine w_dpop1 ?_ | refine w_revL ?_ | refine w_ipI ?_
  | (refine' w_var ?h1 ?_; (case h1 => (with_unfolding_all exact rfl)))
  | (refine' w_aug ?h1 ?_; (case h1 => (with_unfolding_all exact rfl)))
  | (refine w_I ?h1 ?_; (try (case h1 => (with_unfolding_all tm_at "side"))))
  | (refine w_allocT ?h1 ?_; (case h1 => (with_unfolding_all exact rfl)); intro p hp) | (refine w_allocL ?h1 ?_; (case h1 => (with_unfolding_all exact rfl)); intro p hp)
  | (refine w_dnewK ?_; intro p hp)
  | (refine w_lenC ?h1 ?h2 ?_; (case h1 => (with_unfolding_all exact rfl)); (case h2 => (with_unfolding_all exact rfl)))
  | (refine w_kwC ?h1 ?h2 ?_; (case h1 => (with_unfolding_all exact rfl)); (case h2 => (with_unfolding_all exact rfl))))
local macro_rules | `(tactic| tm_at "wp") => `(tactic| repeat' (tm_at "wp1"))
local macro_rules | `(tactic| tm_at "wq1") => `(tactic| with_reducible first
  | refine w_asg ?_ | refine w_c ?_ | refine w_op ?_ | refine w_cons ?_ | refine w_nil ?_ | refine w_gname ?_ | refine w_nx ?_ | refine w_rt ?_ | refine w_I0 ?_
  | refine w_eqI ?_ | refine w_neI ?_ | refine w_eqS ?_ | refine w_neS ?_ | refine w_neBl ?_ | refine w_eqBl ?_ | refine w_CB ?_ | refine w_call ?_ | refine w_tcallW ?_ | refine w_bl ?_ | refine w_ret ?_ | refine w_retN ?_ | refine w_ifS ?_
  | refine w_test ?_ | refine w_B ?_ | refine w_andV ?_ | refine w_orV ?_ | refine w_notV ?_ | refine w_if ?_ | refine w_and ?_ | refine w_or ?_ | refine w_not ?_ | refine w_chain ?_ | refine w_iteT ?_ | refine w_iteF ?_ | refine w_nott ?_ | refine w_notf ?_
  | refine w_next ?_ | refine w_tup ?_ | refine w_lst ?_ | refine w_gcons ?_ | refine w_gnil ?_ | refine w_gsub ?_ | refine w_drop ?_ | refine w_tpar ?_ | refine w_tpar3 ?_ | refine w_p2 ?_ | refine w_p3 ?_ | refine w_un ?_ | refine w_U ?_
  | refine w_break ?_ | refine w_cont ?_ | refine w_bk ?_ | refine w_ct ?_ | refine w_isB ?_ | refine w_notB ?_ | refine w_BM ?_ | refine w_BM0 ?_ | refine w_sl ?_ | refine w_nopart ?_ | refine w_tpart ?_ | refine w_intC ?_ | refine w_M1 ?_ | refine w_strx ?_
  | refine w_for ?_ | refine w_lc ?_ | refine w_yes ?_ | refine w_iTup ?_ | refine w_iList ?_ | refine w_iStr ?_ | refine w_iRng1 ?_ | refine w_iRng2 ?_ | refine w_iEnumT ?_ | refine w_onS ?_
  | refine w_abs ?_ | refine w_mx3 ?_ | refine w_mn3 ?_ | refine w_iZip ?_ | refine w_sc ?_ | refine w_mx2 ?_ | refine w_mn2 ?_ | refine w_int1 ?_ | refine w_intB ?_ | refine w_inSign ?_ | refine w_notInSign ?_ | refine w_isNN ?_ | refine w_isNI ?_ | refine w_isNR ?_ | refine w_isN ?_ | refine w_notNN ?_ | refine w_notNI ?_ | refine w_notNR ?_ | refine w_notN ?_ | refine w_ltS ?_ | refine w_leS ?_
  | refine w_fmt ?_ | refine w_joined ?_ | refine w_jcons ?_ | refine w_jnil ?_ | refine w_strS ?_ | refine w_orT ?_ | refine w_andT ?_ | refine w_dput ?_ | refine w_ckw ?_ | refine w_fldN ?_ | refine w_sfld ?_ | refine w_mtN ?_ | refine w_mkN ?_ | refine w_din ?_ | refine w_dnotin ?_ | refine w_iKeys ?_ | refine w_dc ?_ | refine w_whc ?_ | refine w_dget ?_ | refine w_tru ?_ | refine w_truB ?_ | refine w_truI ?_ | refine w_stepT2 ?_ | refine w_dget2 ?_ | refine w_ddel ?_ | refine w_daug ?_ | refine w_dpop1 ?_ | refine w_revL ?_ | refine w_ipI ?_
  | (refine' w_var ?h1 ?_; (case h1 => (with_unfolding_all exact rfl)))
  | (refine' w_aug ?h1 ?_; (case h1 => (with_unfolding_all exact rfl)))
  | (refine w_I ?h1 ?_; (try (case h1 => (with_unfolding_all tm_at "side"))))
  | (refine w_allocT ?h1 ?_; (case h1 => (with_unfolding_all exact rfl)); intro p hp) | (refine w_allocL ?h1 ?_; (case h1 => (with_unfolding_all exact rfl)); intro p hp)
  | (refine w_dnewK ?_; intro p hp)
  | (refine w_lenC ?h1 ?h2 ?_; (case h1 => (with_unfolding_all exact rfl)); (case h2 => (with_unfolding_all exact rfl)))
  | (refine w_kwC ?h1 ?h2 ?_; (case h1 => (with_unfolding_all exact rfl)); (case h2 => (with_unfolding_all exact rfl))))
local macro_rules | `(tactic| tm_at "wq") => `(tactic| repeat' (tm_at "wq1"))
local macro_rules | `(tactic| tm_at "wx") => `(tactic| with_reducible repeat' (first | refine w_gname ?_ | refine w_next ?_ | refine w_nx ?_))
local macro_rules | `(tactic| tm_at "held") => `(tactic| first | assumption | (refine held_same (by assumption) ?_; tm_at "held"))
local macro_rules | `(tactic| tm_at "wk") => `(tactic| repeat' (first | (refine w_allocLG ?h1 ?_; (case h1 => (with_unfolding_all exact rfl)); intro p G sg hp) | tm_at "wp1" | (refine w_isP (by assumption) (by assumption) (by tm_at "held") (by decide +kernel) ?_)))
local macro_rules | `(tactic| tm_at "vp1") => `(tactic| with_reducible first
  | refine w_seq ?_ | refine w_asg ?_ | refine w_c ?_ | refine w_op ?_ | refine w_cons ?_ | refine w_nil ?_ | refine w_gnameN (by first | (with_reducible_and_instances simp only [List.set_cons_zero, List.set_cons_succ]; apply Eq.refl) | apply Eq.refl) ?_ | refine w_gname ?_ | refine w_setN (by first | (with_reducible_and_instances simp only [List.set_cons_zero, List.set_cons_succ]; apply Eq.refl) | apply Eq.refl) ?_ | refine w_I0 ?_
  | refine w_eqI ?_ | refine w_neI ?_ | refine w_eqS ?_ | refine w_neS ?_ | refine w_neBl ?_ | refine w_eqBl ?_ | refine w_CB ?_ | refine w_call ?_ | refine w_tcallW ?_ | refine w_bl ?_ | refine w_ret ?_ | refine w_retN ?_ | refine w_ifS ?_
  | refine w_test ?_ | refine w_B ?_ | refine w_andV ?_ | refine w_orV ?_ | refine w_notV ?_ | refine w_if ?_ | refine w_and ?_ | refine w_or ?_ | refine w_not ?_ | refine w_chain ?_ | refine w_iteT ?_ | refine w_iteF ?_ | refine w_nott ?_ | refine w_notf ?_
  | refine w_next ?_ | refine w_tup ?_ | refine w_lst ?_ | refine w_gcons ?_ | refine w_gnil ?_ | refine w_gsub ?_ | refine w_drop ?_ | refine w_tparN ?_ | refine w_tpar3N ?_ | refine w_tpar ?_ | refine w_tpar3 ?_ | refine w_p2 ?_ | refine w_p3 ?_ | refine w_un ?_ | refine w_U ?_
  | refine w_break ?_ | refine w_cont ?_ | refine w_isB ?_ | refine w_notB ?_ | refine w_BM ?_ | refine w_BM0 ?_ | refine w_sl ?_ | refine w_nopart ?_ | refine w_tpart ?_ | refine w_intC ?_ | refine w_M1 ?_ | refine w_strx ?_
  | refine w_for ?_ | refine w_lc ?_ | refine w_yes ?_ | refine w_iTup ?_ | refine w_iList ?_ | refine w_iStr ?_ | refine w_iRng1 ?_ | refine w_iRng2 ?_ | refine w_iEnumT ?_ | refine w_onS ?_
  | refine w_abs ?_ | refine w_mx3 ?_ | refine w_mn3 ?_ | refine w_iZip ?_ | refine w_sc ?_ | refine w_mx2 ?_ | refine w_mn2 ?_ | refine w_int1 ?_ | refine w_intB ?_ | refine w_inSign ?_ | refine w_notInSign ?_ | refine w_isNN ?_ | refine w_isNI ?_ | refine w_isNR ?_ | refine w_isN ?_ | refine w_notNN ?_ | refine w_notNI ?_ | refine w_notNR ?_ | refine w_notN ?_ | refine w_ltS ?_ | refine w_leS ?_
  | refine w_fmt ?_ | refine w_joined ?_ | refine w_jcons ?_ | refine w_jnil ?_ | refine w_strS ?_ | refine w_orT ?_ | refine w_andT ?_ | refine w_dput ?_ | refine w_ckw ?_ | refine w_fldN ?_ | refine w_sfld ?_ | refine w_mtN ?_ | refine w_mkN ?_ | refine w_din ?_ | refine w_dnotin ?_ | refine w_iKeys ?_ | refine w_dc ?_ | refine w_whc ?_ | refine w_dget ?_ | refine w_tru ?_ | refine w_truB ?_ | refine w_truI ?_ | refine w_stepT2 ?_ | refine w_dget2 ?_ | refine w_ddel ?_ | refine w_daug ?_ | refine w_dpop1 ?_ | refine w_revL ?_ | refine w_ipI ?_
  | (refine' w_var ?h1 ?_; (case h1 => (with_unfolding_all exact rfl)))
  | (refine' w_augN ?h1 ?_; (case h1 => (with_unfolding_all exact rfl))) | (refine' w_aug ?h1 ?_; (case h1 => (with_unfolding_all exact rfl)))
  | (refine w_I ?h1 ?_; (try (case h1 => (with_unfolding_all tm_at "side"))))
  | (refine w_allocT ?h1 ?_; (case h1 => (with_unfolding_all exact rfl)); intro p hp) | (refine w_allocL ?h1 ?_; (case h1 => (with_unfolding_all exact rfl)); intro p hp)
  | (refine w_dnewK ?_; intro p hp)
  | (refine w_lenC ?h1 ?h2 ?_; (case h1 => (with_unfolding_all exact rfl)); (case h2 => (with_unfolding_all exact rfl)))
  | (refine w_kwC ?h1 ?h2 ?_; (case h1 => (with_unfolding_all exact rfl)); (case h2 => (with_unfolding_all exact rfl))))
local macro_rules | `(tactic| tm_at "vp") => `(tactic| repeat' (tm_at "vp1"))
local macro_rules | `(tactic| tm_at "vq1") => `(tactic| with_reducible first
  | refine w_asg ?_ | refine w_c ?_ | refine w_op ?_ | refine w_cons ?_ | refine w_nil ?_ | refine w_gnameN (by first | (with_reducible_and_instances simp only [List.set_cons_zero, List.set_cons_succ]; apply Eq.refl) | apply Eq.refl) ?_ | refine w_gname ?_ | refine w_setN (by first | (with_reducible_and_instances simp only [List.set_cons_zero, List.set_cons_succ]; apply Eq.refl) | apply Eq.refl) ?_ | refine w_I0 ?_
  | refine w_eqI ?_ | refine w_neI ?_ | refine w_eqS ?_ | refine w_neS ?_ | refine w_neBl ?_ | refine w_eqBl ?_ | refine w_CB ?_ | refine w_call ?_ | refine w_tcallW ?_ | refine w_bl ?_ | refine w_ret ?_ | refine w_retN ?_ | refine w_ifS ?_
  | refine w_test ?_ | refine w_B ?_ | refine w_andV ?_ | refine w_orV ?_ | refine w_notV ?_ | refine w_if ?_ | refine w_and ?_ | refine w_or ?_ | refine w_not ?_ | refine w_chain ?_ | refine w_iteT ?_ | refine w_iteF ?_ | refine w_nott ?_ | refine w_notf ?_
  | refine w_next ?_ | refine w_tup ?_ | refine w_lst ?_ | refine w_gcons ?_ | refine w_gnil ?_ | refine w_gsub ?_ | refine w_drop ?_ | refine w_tparN ?_ | refine w_tpar3N ?_ | refine w_tpar ?_ | refine w_tpar3 ?_ | refine w_p2 ?_ | refine w_p3 ?_ | refine w_un ?_ | refine w_U ?_
  | refine w_break ?_ | refine w_cont ?_ | refine w_isB ?_ | refine w_notB ?_ | refine w_BM ?_ | refine w_BM0 ?_ | refine w_sl ?_ | refine w_nopart ?_ | refine w_tpart ?_ | refine w_intC ?_ | refine w_M1 ?_ | refine w_strx ?_
  | refine w_for ?_ | refine w_lc ?_ | refine w_yes ?_ | refine w_iTup ?_ | refine w_iList ?_ | refine w_iStr ?_ | refine w_iRng1 ?_ | refine w_iRng2 ?_ | refine w_iEnumT ?_ | refine w_onS ?_
  | refine w_abs ?_ | refine w_mx3 ?_ | refine w_mn3 ?_ | refine w_iZip ?_ | refine w_sc ?_ | refine w_mx2 ?_ | refine w_mn2 ?_ | refine w_int1 ?_ | refine w_intB ?_ | refine w_inSign ?_ | refine w_notInSign ?_ | refine w_isNN ?_ | refine w_isNI ?_ | refine w_isNR ?_ | refine w_isN ?_ | refine w_notNN ?_ | refine w_notNI ?_ | refine w_notNR ?_ | refine w_notN ?_ | refine w_ltS ?_ | refine w_leS ?_
  | refine w_fmt ?_ | refine w_joined ?_ | refine w_jcons ?_ | refine w_jnil ?_ | refine w_strS ?_ | refine w_orT ?_ | refine w_andT ?_ | refine w_dput ?_ | refine w_ckw ?_ | refine w_fldN ?_ | refine w_sfld ?_ | refine w_mtN ?_ | refine w_mkN ?_ | refine w_din ?_ | refine w_dnotin ?_ | refine w_iKeys ?_ | refine w_dc ?_ | refine w_whc ?_ | refine w_dget ?_ | refine w_tru ?_ | refine w_truB ?_ | refine w_truI ?_ | refine w_stepT2 ?_ | refine w_dget2 ?_ | refine w_ddel ?_ | refine w_daug ?_ | refine w_dpop1 ?_ | refine w_revL ?_ | refine w_ipI ?_
  | (refine' w_var ?h1 ?_; (case h1 => (with_unfolding_all exact rfl)))
  | (refine' w_augN ?h1 ?_; (case h1 => (with_unfolding_all exact rfl))) | (refine' w_aug ?h1 ?_; (case h1 => (with_unfolding_all exact rfl)))
  | (refine w_I ?h1 ?_; (try (case h1 => (with_unfolding_all tm_at "side"))))
  | (refine w_allocT ?h1 ?_; (case h1 => (with_unfolding_all exact rfl)); intro p hp) | (refine w_allocL ?h1 ?_; (case h1 => (with_unfolding_all exact rfl)); intro p hp)
  | (refine w_dnewK ?_; intro p hp)
  | (refine w_lenC ?h1 ?h2 ?_; (case h1 => (with_unfolding_all exact rfl)); (case h2 => (with_unfolding_all exact rfl)))
  | (refine w_kwC ?h1 ?h2 ?_; (case h1 => (with_unfolding_all exact rfl)); (case h2 => (with_unfolding_all exact rfl))))
local macro_rules | `(tactic| tm_at "vq") => `(tactic| repeat' (tm_at "vq1"))
local macro_rules | `(tactic| tm_at "vx") => `(tactic| with_reducible repeat' (first | refine w_gnameN (by first | (with_reducible_and_instances simp only [List.set_cons_zero, List.set_cons_succ]; apply Eq.refl) | apply Eq.refl) ?_ | refine w_gname ?_ | refine w_setN (by first | (with_reducible_and_instances simp only [List.set_cons_zero, List.set_cons_succ]; apply Eq.refl) | apply Eq.refl) ?_ | refine w_next ?_))
abbrev N_is_whole : List Str := ["thing"]
theorem sc_is_whole : FnScope N_is_whole ["thing"] (defScope s_is_whole) := ⟨rfl, rfl, rfl, by decide +kernel, rfl, by decide +kernel, by decide +kernel⟩
theorem pb_is_whole : PosB "is_whole" s_is_whole ["thing"] := fun _ _ _ _ _ _ us hl => match us, hl with | [_], _ => rfl
abbrev N_is_from : List Str := ["thing", "least"]
theorem sc_is_from : FnScope N_is_from ["thing", "least"] (defScope s_is_from) := ⟨rfl, rfl, rfl, by decide +kernel, rfl, by decide +kernel, by decide +kernel⟩
theorem pb_is_from : PosB "is_from" s_is_from ["thing", "least"] := fun _ _ _ _ _ _ us hl => match us, hl with | [_, _], _ => rfl
abbrev N_is_between : List Str := ["thing", "least", "most"]
theorem sc_is_between : FnScope N_is_between ["thing", "least", "most"] (defScope s_is_between) := ⟨rfl, rfl, rfl, by decide +kernel, rfl, by decide +kernel, by decide +kernel⟩
theorem pb_is_between : PosB "is_between" s_is_between ["thing", "least", "most"] := fun _ _ _ _ _ _ us hl => match us, hl with | [_, _, _], _ => rfl
abbrev N_is_capacity : List Str := ["thing"]
theorem sc_is_capacity : FnScope N_is_capacity ["thing"] (defScope s_is_capacity) := ⟨rfl, rfl, rfl, by decide +kernel, rfl, by decide +kernel, by decide +kernel⟩
theorem pb_is_capacity : PosB "is_capacity" s_is_capacity ["thing"] := fun _ _ _ _ _ _ us hl => match us, hl with | [_], _ => rfl
abbrev N_is_name : List Str := ["thing", "letter"]
theorem sc_is_name : FnScope N_is_name ["thing"] (defScope s_is_name) := ⟨rfl, rfl, rfl, by decide +kernel, rfl, by decide +kernel, by decide +kernel⟩
theorem pb_is_name : PosB "is_name" s_is_name ["thing"] := fun _ _ _ _ _ _ us hl => match us, hl with | [_], _ => rfl
abbrev N_is_run : List Str := ["thing"]
theorem sc_is_run : FnScope N_is_run ["thing"] (defScope s_is_run) := ⟨rfl, rfl, rfl, by decide +kernel, rfl, by decide +kernel, by decide +kernel⟩
theorem pb_is_run : PosB "is_run" s_is_run ["thing"] := fun _ _ _ _ _ _ us hl => match us, hl with | [_], _ => rfl
abbrev N_first_invalid : List Str := ["thing", "most", "index", "pair"]
theorem sc_first_invalid : FnScope N_first_invalid ["thing", "most"] (defScope s_first_invalid) := ⟨rfl, rfl, rfl, by decide +kernel, rfl, by decide +kernel, by decide +kernel⟩
theorem pb_first_invalid : PosB "first_invalid" s_first_invalid ["thing", "most"] := fun _ _ _ _ _ _ us hl => match us, hl with | [_, _], _ => rfl
abbrev N_check_counts : List Str := ["thing", "invalid"]
theorem sc_check_counts : FnScope N_check_counts ["thing"] (defScope s_check_counts) := ⟨rfl, rfl, rfl, by decide +kernel, rfl, by decide +kernel, by decide +kernel⟩
theorem pb_check_counts : PosB "check_counts" s_check_counts ["thing"] := fun _ _ _ _ _ _ us hl => match us, hl with | [_], _ => rfl
abbrev N_check_capacity : List Str := ["thing"]
theorem sc_check_capacity : FnScope N_check_capacity ["thing"] (defScope s_check_capacity) := ⟨rfl, rfl, rfl, by decide +kernel, rfl, by decide +kernel, by decide +kernel⟩
theorem pb_check_capacity : PosB "check_capacity" s_check_capacity ["thing"] := fun _ _ _ _ _ _ us hl => match us, hl with | [_], _ => rfl
abbrev N_check_name : List Str := ["thing"]
theorem sc_check_name : FnScope N_check_name ["thing"] (defScope s_check_name) := ⟨rfl, rfl, rfl, by decide +kernel, rfl, by decide +kernel, by decide +kernel⟩
theorem pb_check_name : PosB "check_name" s_check_name ["thing"] := fun _ _ _ _ _ _ us hl => match us, hl with | [_], _ => rfl
abbrev N_sum_of : List Str := ["pairs", "name", "count"]
theorem sc_sum_of : FnScope N_sum_of ["pairs"] (defScope s_sum_of) := ⟨rfl, rfl, rfl, by decide +kernel, rfl, by decide +kernel, by decide +kernel⟩
theorem pb_sum_of : PosB "sum_of" s_sum_of ["pairs"] := fun _ _ _ _ _ _ us hl => match us, hl with | [_], _ => rfl
abbrev N_table_of : List Str := ["pairs", "found", "name", "count"]
theorem sc_table_of : FnScope N_table_of ["pairs"] (defScope s_table_of) := ⟨rfl, rfl, rfl, by decide +kernel, rfl, by decide +kernel, by decide +kernel⟩
theorem pb_table_of : PosB "table_of" s_table_of ["pairs"] := fun _ _ _ _ _ _ us hl => match us, hl with | [_], _ => rfl
abbrev N_Summary___init__ : List Str := ["self", "capacity", "counts", "invalid"]
theorem sc_Summary___init__ : FnScope N_Summary___init__ ["self", "capacity", "counts"] (defScope s_Summary___init__) := ⟨rfl, rfl, rfl, by decide +kernel, rfl, by decide +kernel, by decide +kernel⟩
abbrev N_Summary_tally : List Str := ["self", "name"]
theorem sc_Summary_tally : FnScope N_Summary_tally ["self", "name"] (defScope s_Summary_tally) := ⟨rfl, rfl, rfl, by decide +kernel, rfl, by decide +kernel, by decide +kernel⟩
abbrev N_is_summary : List Str := ["thing"]
theorem sc_is_summary : FnScope N_is_summary ["thing"] (defScope s_is_summary) := ⟨rfl, rfl, rfl, by decide +kernel, rfl, by decide +kernel, by decide +kernel⟩
theorem pb_is_summary : PosB "is_summary" s_is_summary ["thing"] := fun _ _ _ _ _ _ us hl => match us, hl with | [_], _ => rfl
abbrev N_check_summary : List Str := ["thing"]
theorem sc_check_summary : FnScope N_check_summary ["thing"] (defScope s_check_summary) := ⟨rfl, rfl, rfl, by decide +kernel, rfl, by decide +kernel, by decide +kernel⟩
theorem pb_check_summary : PosB "check_summary" s_check_summary ["thing"] := fun _ _ _ _ _ _ us hl => match us, hl with | [_], _ => rfl
abbrev N_check_size : List Str := ["summary", "size"]
theorem sc_check_size : FnScope N_check_size ["summary", "size"] (defScope s_check_size) := ⟨rfl, rfl, rfl, by decide +kernel, rfl, by decide +kernel, by decide +kernel⟩
theorem pb_check_size : PosB "check_size" s_check_size ["summary", "size"] := fun _ _ _ _ _ _ us hl => match us, hl with | [_, _], _ => rfl
abbrev N_reduction_count : List Str := ["summary", "size"]
theorem sc_reduction_count : FnScope N_reduction_count ["summary", "size"] (defScope s_reduction_count) := ⟨rfl, rfl, rfl, by decide +kernel, rfl, by decide +kernel, by decide +kernel⟩
theorem pb_reduction_count : PosB "reduction_count" s_reduction_count ["summary", "size"] := fun _ _ _ _ _ _ us hl => match us, hl with | [_, _], _ => rfl
abbrev N_fits : List Str := ["summary", "size", "counts", "deep", "real", "kept", "lost", "name", "each"]
theorem sc_fits : FnScope N_fits ["summary", "size", "counts"] (defScope s_fits) := ⟨rfl, rfl, rfl, by decide +kernel, rfl, by decide +kernel, by decide +kernel⟩
theorem pb_fits : PosB "fits" s_fits ["summary", "size", "counts"] := fun _ _ _ _ _ _ us hl => match us, hl with | [_, _, _], _ => rfl
abbrev N_true_range : List Str := ["summary", "size", "name", "deep", "least"]
theorem sc_true_range : FnScope N_true_range ["summary", "size", "name"] (defScope s_true_range) := ⟨rfl, rfl, rfl, by decide +kernel, rfl, by decide +kernel, by decide +kernel⟩
theorem pb_true_range : PosB "true_range" s_true_range ["summary", "size", "name"] := fun _ _ _ _ _ _ us hl => match us, hl with | [_, _, _], _ => rfl
abbrev N_surely_more : List Str := ["summary", "size", "one", "other", "deep", "first", "second"]
theorem sc_surely_more : FnScope N_surely_more ["summary", "size", "one", "other"] (defScope s_surely_more) := ⟨rfl, rfl, rfl, by decide +kernel, rfl, by decide +kernel, by decide +kernel⟩
theorem pb_surely_more : PosB "surely_more" s_surely_more ["summary", "size", "one", "other"] := fun _ _ _ _ _ _ us hl => match us, hl with | [_, _, _, _], _ => rfl
abbrev N_most_ahead : List Str := ["summary", "size", "name", "deep", "goal", "needs", "other", "count", "left", "found", "need"]
theorem sc_most_ahead : FnScope N_most_ahead ["summary", "size", "name"] (defScope s_most_ahead) := ⟨rfl, rfl, rfl, by decide +kernel, rfl, by decide +kernel, by decide +kernel⟩
theorem pb_most_ahead : PosB "most_ahead" s_most_ahead ["summary", "size", "name"] := fun _ _ _ _ _ _ us hl => match us, hl with | [_, _, _], _ => rfl
abbrev N_surely_among : List Str := ["summary", "size", "name", "number", "ahead"]
theorem sc_surely_among : FnScope N_surely_among ["summary", "size", "name", "number"] (defScope s_surely_among) := ⟨rfl, rfl, rfl, by decide +kernel, rfl, by decide +kernel, by decide +kernel⟩
theorem pb_surely_among : PosB "surely_among" s_surely_among ["summary", "size", "name", "number"] := fun _ _ _ _ _ _ us hl => match us, hl with | [_, _, _, _], _ => rfl
abbrev N__law_cell : List Str := ["_law_script", "_law_k", "_law_state", "_law_cell_here"]
theorem sc__law_cell : FnScope N__law_cell ["_law_script", "_law_k"] (defScope s__law_cell) := ⟨rfl, rfl, rfl, by decide +kernel, rfl, by decide +kernel, by decide +kernel⟩
theorem pb__law_cell : PosB "_law_cell" s__law_cell ["_law_script", "_law_k"] := fun _ _ _ _ _ _ us hl => match us, hl with | [_, _], _ => rfl
abbrev N__law_pool : List Str := ["_law_cell_here", "_law_digits"]
theorem sc__law_pool : FnScope N__law_pool ["_law_cell_here"] (defScope s__law_pool) := ⟨rfl, rfl, rfl, by decide +kernel, rfl, by decide +kernel, by decide +kernel⟩
theorem pb__law_pool : PosB "_law_pool" s__law_pool ["_law_cell_here"] := fun _ _ _ _ _ _ us hl => match us, hl with | [_], _ => rfl
abbrev N__law_draw : List Str := ["_law_pool_here", "_law_many", "_law_state", "_law_digit"]
theorem sc__law_draw : FnScope N__law_draw ["_law_pool_here", "_law_many"] (defScope s__law_draw) := ⟨rfl, rfl, rfl, by decide +kernel, rfl, by decide +kernel, by decide +kernel⟩
theorem pb__law_draw : PosB "_law_draw" s__law_draw ["_law_pool_here", "_law_many"] := fun _ _ _ _ _ _ us hl => match us, hl with | [_, _], _ => rfl
abbrev N__law_words : List Str := ["_law_pool_here", "_law_many", "_law_letters", "_law_menu", "_law_way", "_law_begin", "_law_k", "_law_stem", "_law_at"]
theorem sc__law_words : FnScope N__law_words ["_law_pool_here", "_law_many"] (defScope s__law_words) := ⟨rfl, rfl, rfl, by decide +kernel, rfl, by decide +kernel, by decide +kernel⟩
theorem pb__law_words : PosB "_law_words" s__law_words ["_law_pool_here", "_law_many"] := fun _ _ _ _ _ _ us hl => match us, hl with | [_, _], _ => rfl
abbrev N__law_flat : List Str := ["_law_held_here", "_law_word"]
theorem sc__law_flat : FnScope N__law_flat ["_law_held_here"] (defScope s__law_flat) := ⟨rfl, rfl, rfl, by decide +kernel, rfl, by decide +kernel, by decide +kernel⟩
theorem pb__law_flat : PosB "_law_flat" s__law_flat ["_law_held_here"] := fun _ _ _ _ _ _ us hl => match us, hl with | [_], _ => rfl
abbrev N__law_held : List Str := ["_law_bag", "_law_held_here", "_law_word", "_law_many"]
theorem sc__law_held : FnScope N__law_held ["_law_bag"] (defScope s__law_held) := ⟨rfl, rfl, rfl, by decide +kernel, rfl, by decide +kernel, by decide +kernel⟩
theorem pb__law_held : PosB "_law_held" s__law_held ["_law_bag"] := fun _ _ _ _ _ _ us hl => match us, hl with | [_], _ => rfl
abbrev N__law_sum : List Str := ["_law_bag", "_law_pair"]
theorem sc__law_sum : FnScope N__law_sum ["_law_bag"] (defScope s__law_sum) := ⟨rfl, rfl, rfl, by decide +kernel, rfl, by decide +kernel, by decide +kernel⟩
theorem pb__law_sum : PosB "_law_sum" s__law_sum ["_law_bag"] := fun _ _ _ _ _ _ us hl => match us, hl with | [_], _ => rfl
abbrev N__law_loaded : List Str := ["_law_held_here", "_law_words_here", "_law_units", "_law_table", "_law_k", "_law_pair"]
theorem sc__law_loaded : FnScope N__law_loaded ["_law_held_here", "_law_words_here", "_law_units"] (defScope s__law_loaded) := ⟨rfl, rfl, rfl, by decide +kernel, rfl, by decide +kernel, by decide +kernel⟩
theorem pb__law_loaded : PosB "_law_loaded" s__law_loaded ["_law_held_here", "_law_words_here", "_law_units"] := fun _ _ _ _ _ _ us hl => match us, hl with | [_, _, _], _ => rfl
abbrev N__law_dealt : List Str := ["_law_pool_here", "_law_many", "_law_left", "_law_deep", "_law_found", "_law_k", "_law_low"]
theorem sc__law_dealt : FnScope N__law_dealt ["_law_pool_here", "_law_many", "_law_left", "_law_deep"] (defScope s__law_dealt) := ⟨rfl, rfl, rfl, by decide +kernel, rfl, by decide +kernel, by decide +kernel⟩
theorem pb__law_dealt : PosB "_law_dealt" s__law_dealt ["_law_pool_here", "_law_many", "_law_left", "_law_deep"] := fun _ _ _ _ _ _ us hl => match us, hl with | [_, _, _, _], _ => rfl
abbrev N__law_first_dealt : List Str := ["_law_many", "_law_left", "_law_deep", "_law_found", "_law_k"]
theorem sc__law_first_dealt : FnScope N__law_first_dealt ["_law_many", "_law_left", "_law_deep"] (defScope s__law_first_dealt) := ⟨rfl, rfl, rfl, by decide +kernel, rfl, by decide +kernel, by decide +kernel⟩
theorem pb__law_first_dealt : PosB "_law_first_dealt" s__law_first_dealt ["_law_many", "_law_left", "_law_deep"] := fun _ _ _ _ _ _ us hl => match us, hl with | [_, _, _], _ => rfl
abbrev N__law_count_ahead : List Str := ["_law_bag", "_law_word", "_law_own", "_law_pair"]
theorem sc__law_count_ahead : FnScope N__law_count_ahead ["_law_bag", "_law_word"] (defScope s__law_count_ahead) := ⟨rfl, rfl, rfl, by decide +kernel, rfl, by decide +kernel, by decide +kernel⟩
theorem pb__law_count_ahead : PosB "_law_count_ahead" s__law_count_ahead ["_law_bag", "_law_word"] := fun _ _ _ _ _ _ us hl => match us, hl with | [_, _], _ => rfl
abbrev N__law_raised : List Str := ["_law_width", "_law_held_here", "_law_deep", "_law_word", "_law_table", "_law_left", "_law_goal", "_law_fresh", "_law_letter", "_law_others", "_law_each", "_law_gaps", "_law_needs", "_law_pair", "_law_used", "_law_need", "_law_step"]
theorem sc__law_raised : FnScope N__law_raised ["_law_width", "_law_held_here", "_law_deep", "_law_word"] (defScope s__law_raised) := ⟨rfl, rfl, rfl, by decide +kernel, rfl, by decide +kernel, by decide +kernel⟩
theorem pb__law_raised : PosB "_law_raised" s__law_raised ["_law_width", "_law_held_here", "_law_deep", "_law_word"] := fun _ _ _ _ _ _ us hl => match us, hl with | [_, _, _, _], _ => rfl
abbrev N__law_pairs_right : List Str := ["_law_board", "_law_held_here", "_law_deep", "_law_some", "_law_words_here", "_law_grand", "_law_first", "_law_last", "_law_told", "_law_tables", "_law_bag", "_law_more", "_law_table", "_law_fresh", "_law_others", "_law_each", "_law_units", "_law_hard", "_law_least"]
theorem sc__law_pairs_right : FnScope N__law_pairs_right ["_law_board", "_law_held_here", "_law_deep", "_law_some", "_law_words_here"] (defScope s__law_pairs_right) := ⟨rfl, rfl, rfl, by decide +kernel, rfl, by decide +kernel, by decide +kernel⟩
theorem pb__law_pairs_right : PosB "_law_pairs_right" s__law_pairs_right ["_law_board", "_law_held_here", "_law_deep", "_law_some", "_law_words_here"] := fun _ _ _ _ _ _ us hl => match us, hl with | [_, _, _, _, _], _ => rfl
abbrev N__law_right : List Str := ["_law_pool_here", "_law_width", "_law_words_here", "_law_used", "_law_held_here", "_law_word", "_law_deep", "_law_board", "_law_some", "_law_units", "_law_grand", "_law_fresh", "_law_members", "_law_pair", "_law_each", "_law_turn", "_law_bag", "_law_low", "_law_high", "_law_most", "_law_hard", "_law_ahead"]
theorem sc__law_right : FnScope N__law_right ["_law_pool_here"] (defScope s__law_right) := ⟨rfl, rfl, rfl, by decide +kernel, rfl, by decide +kernel, by decide +kernel⟩
theorem pb__law_right : PosB "_law_right" s__law_right ["_law_pool_here"] := fun _ _ _ _ _ _ us hl => match us, hl with | [_], _ => rfl
abbrev N_law : List Str := ["_law_script", "_law_k"]
theorem sc_law : FnScope N_law ["_law_script"] (defScope s_law) := ⟨rfl, rfl, rfl, by decide +kernel, rfl, by decide +kernel, by decide +kernel⟩
theorem pb_law : PosB "law" s_law ["_law_script"] := fun _ _ _ _ _ _ us hl => match us, hl with | [_], _ => rfl
theorem bj_Summary_tally_2 : BindJ "tally" "Summary.tally" s_Summary_tally ["self", "name"] 0 2 [] [0, 1] := .inl ⟨rfl, fun _ _ _ _ _ _ us ws h1 h2 => match us, h1, ws, h2 with | [_, _], _, [], _ => rfl⟩
theorem bj_Summary___init___3 : BindJ "__init__" "Summary.__init__" s_Summary___init__ ["self", "capacity", "counts"] 1 3 [] [0, 1, 2] := .inr ⟨by decide, fun _ _ _ _ _ _ _ us its ws h1 h2 h3 => match us, h1, its, h2, ws, h3 with | [_, _, _], _, [_], _, [], _ => ⟨_, rfl, rfl⟩⟩
def sp_is_whole (K : PySem.W.Frag) : Sp := fun vs H Q _ => ∃ (v : V) (d : PyData), vs = [v] ∧ Dp K H v d ∧ Q (.bl (wholeD d)) H
def sp_is_from (K : PySem.W.Frag) : Sp := fun vs H Q _ => ∃ (v : V) (d : PyData) (j : Int), vs = [v, .int j] ∧ Dp K H v d ∧ Q (.bl (fromD d j)) H
def sp_is_between (K : PySem.W.Frag) : Sp := fun vs H Q _ => ∃ (v : V) (d : PyData) (i j : Int), vs = [v, .int i, .int j] ∧ Dp K H v d ∧ Q (.bl (betD d i j)) H
def sp_is_capacity (K : PySem.W.Frag) : Sp := fun vs H Q _ => ∃ (v : V) (d : PyData), vs = [v] ∧ Dp K H v d ∧ Q (.bl (betD d 1 8)) H
def sp_is_name (K : PySem.W.Frag) : Sp := fun vs H Q _ => ∃ (v : V) (d : PyData), vs = [v] ∧ Dp K H v d ∧ szD d = true ∧ ∀ H', Same H H' → Q (.bl (nameD d)) H'
def sp_is_run (K : PySem.W.Frag) : Sp := fun vs H Q _ => ∃ (v : V) (d : PyData), vs = [v] ∧ Dp K H v d ∧ szD d = true ∧ ∀ H', Same H H' → Q (.bl (runD d)) H'
theorem run_inv {K : PySem.W.Frag} {H : Hp} {v : V} {d : PyData} (h : Dp K H v d) (r : runD d = true) : ∃ a x w, v = .ref a ∧ SqT K H a [.str x, w] ∧ nmD d = x := by
  unfold runD at r
  split at r
  · rename_i a b
    cases a with
    | str x =>
      obtain ⟨p, xs, rfl, hs, hx⟩ := dp_tup_inv h
      cases hx with
      | @cons v0 _ _ _ r0 hx =>
      cases hx with
      | @cons v1 _ _ _ r1 hx =>
      cases hx
      cases dp_str_inv r0
      exact ⟨p, x, v1, rfl, hs, rfl⟩
    | _ => cases r
  · cases r
theorem getD_of {ds : List PyData} {i : Nat} {d : PyData} (h : ds[i]? = some d) : ds.getD i .none = d := by simp [List.getD, h]
def sp_first_invalid (K : PySem.W.Frag) : Sp := fun vs H Q _ => ∃ (v : V) (ds : List PyData) (m : Int), vs = [v, .int m] ∧ Dp K H v (.tuple ds) ∧ szDs ds = true ∧ ∀ H', Same H H' → Q (optV (firstBad ds m)) H'
def sp_check_counts (K : PySem.W.Frag) : Sp := fun vs H Q _ => ∃ (v : V) (ds : List PyData), vs = [v] ∧ Dp K H v (.tuple ds) ∧ szDs ds = true ∧ firstBad ds 12 = none ∧ ∀ H', Same H H' → Q .non H'
def sp_check_capacity (K : PySem.W.Frag) : Sp := fun vs H Q _ => ∃ (c : Int), vs = [.int c] ∧ 1 ≤ c ∧ c ≤ 8 ∧ Q .non H
def sp_check_name (K : PySem.W.Frag) : Sp := fun vs H Q _ => ∃ (x : Str), vs = [.str x] ∧ isName x = true ∧ ∀ H', Same H H' → Q .non H'
def sp_sum_of (K : PySem.W.Frag) : Sp := fun vs H Q _ => ∃ (v : V) (ps : Bag), vs = [v] ∧ Dp K H v (bagD ps) ∧ ps.length ≤ 100000 ∧ ∀ H', Same H H' → Q (.int (sumC ps)) H'
def sp_table_of (K : PySem.W.Frag) : Sp := fun vs H Q _ => ∃ (v : V) (ps : Bag), vs = [v] ∧ Dp K H v (bagD ps) ∧ ps.length ≤ 100000 ∧ ∀ a H', H a = none → Same H H' → H' a = some (.dK (kvOf (tabOf ps))) → Q (.ref a) H'
def sp_Summary___init__ (K : PySem.W.Frag) : Sp := spInit K
def sp_Summary_tally (K : PySem.W.Frag) : Sp := fun vs H Q _ => ∃ (v : V) (c : Int) (ps : Bag) (n : Str), vs = [v, .str n] ∧ SumO K H v c ps ∧ SumV c ps ∧ isName n = true ∧ ∀ H', Same H H' → Q (.int (getT ps n)) H'
def sp_is_summary (K : PySem.W.Frag) : Sp := fun vs H Q _ => ∃ (v : V) (b : Bool), vs = [v] ∧ ((b = true ∧ ∃ c ps, SumO K H v c ps) ∨ (b = false ∧ ∃ d, Dp K H v d)) ∧ Q (.bl b) H
def sp_check_summary (K : PySem.W.Frag) : Sp := fun vs H Q _ => ∃ (v : V) (c : Int) (ps : Bag), vs = [v] ∧ SumO K H v c ps ∧ Q .non H
def sp_check_size (K : PySem.W.Frag) : Sp := fun vs H Q _ => ∃ (v : V) (c : Int) (ps : Bag) (N d : Int), vs = [v, .int N] ∧ SumO K H v c ps ∧ SumV c ps ∧ N = sumC ps + d * (c + 1) ∧ 0 ≤ d ∧ ∀ H', Same H H' → Q .non H'
def sp_reduction_count (K : PySem.W.Frag) : Sp := fun vs H Q _ => ∃ (v : V) (c : Int) (ps : Bag) (N d : Int), vs = [v, .int N] ∧ SumO K H v c ps ∧ SumV c ps ∧ N = sumC ps + d * (c + 1) ∧ 0 ≤ d ∧ ∀ H', Same H H' → Q (.int d) H'
def sp_fits (K : PySem.W.Frag) : Sp := fun vs H Q _ => ∃ (v : V) (c : Int) (ps : Bag) (N d : Int) (w : V) (qs : Bag), vs = [v, .int N, w] ∧ SumO K H v c ps ∧ SumV c ps ∧ N = sumC ps + d * (c + 1) ∧ 0 ≤ d ∧ Dp K H w (bagD qs) ∧ BagOk qs ∧ qs.length ≤ 12 ∧ ∀ b H', Same H H' → (b = true ↔ FitB ps d N qs) → Q (.bl b) H'
def sp_true_range (K : PySem.W.Frag) : Sp := fun vs H Q _ => ∃ (v : V) (c : Int) (ps : Bag) (N d : Int) (x : Str), vs = [v, .int N, .str x] ∧ SumO K H v c ps ∧ SumV c ps ∧ N = sumC ps + d * (c + 1) ∧ 0 ≤ d ∧ isName x = true ∧ ∀ w H', Same H H' → Dp K H' w (.tuple [.int (getT ps x), .int (getT ps x + d)]) → Q w H'
def sp_surely_more (K : PySem.W.Frag) : Sp := fun vs H Q _ => ∃ (v : V) (c : Int) (ps : Bag) (N d : Int) (x y : Str), vs = [v, .int N, .str x, .str y] ∧ SumO K H v c ps ∧ SumV c ps ∧ N = sumC ps + d * (c + 1) ∧ 0 ≤ d ∧ isName x = true ∧ isName y = true ∧ ∀ H', Same H H' → Q (.bl (!decide (x = y) && decide (getT ps y + d < getT ps x))) H'
def sp_most_ahead (K : PySem.W.Frag) : Sp := fun vs H Q _ => ∃ (v : V) (c : Int) (ps : Bag) (N d : Int) (x : Str), vs = [v, .int N, .str x] ∧ SumO K H v c ps ∧ SumV c ps ∧ N = sumC ps + d * (c + 1) ∧ 0 ≤ d ∧ isName x = true ∧ sumC ps ≤ 10 ^ 90 ∧ ∀ H', Same H H' → Q (.int (aheadL c d ps x)) H'
def sp_surely_among (K : PySem.W.Frag) : Sp := fun vs H Q _ => ∃ (v : V) (c : Int) (ps : Bag) (N d : Int) (x : Str) (m : Int), vs = [v, .int N, .str x, .int m] ∧ SumO K H v c ps ∧ SumV c ps ∧ N = sumC ps + d * (c + 1) ∧ 0 ≤ d ∧ isName x = true ∧ sumC ps ≤ 10 ^ 90 ∧ 1 ≤ m ∧ ∀ H', Same H H' → Q (.bl (decide (aheadL c d ps x < m))) H'
def sp__law_cell (K : PySem.W.Frag) : Sp := fun vs H Q _ => ∃ (a : Addr) (ns : List Int) (j : Int), vs = [.ref a, .int j] ∧ SqL K H a (ns.map V.int) ∧ ns.length ≤ 100 ∧ 0 ≤ j ∧ j ≤ 1000 ∧ ∀ n H', Same H H' → Q (.int n) H'
def spc__law_pool (K : PySem.W.Frag) : Sp := spPoolC
def sp__law_pool (K : PySem.W.Frag) : Sp := spPool
theorem divp200 {i j : Int} (h0 : 0 < j) (h1 : j < 2 ^ 200) : CDivP i j := by
  refine ⟨h0, PyProof.noPylong_of_log2 ?_⟩
  exact Nat.lt_of_lt_of_le (PySem.Flt.log2_lt_of (by decide : 0 < 200) (by omega)) (by decide)
def spc__law_draw (K : PySem.W.Frag) : Sp := spDrawC
def sp__law_draw (K : PySem.W.Frag) : Sp := spDraw
def QOne (f : Nat → Str) : Prop := ∀ i j, i < 3 → j < 3 → isQd (f i) = true → isQd (f j) = true → i = j
theorem qA : ∀ b, b < 15 → ∀ i, i < 3 → isQd (wordA b i) = false := by decide +kernel
theorem qB : ∀ b, b < 15 → ∀ i, i < 3 → isQd (wordB b i) = false := by decide +kernel
theorem qd_list {w : Str} (h : isQd w = true) : ∃ c, w.cps.toList = [113, c] ∧ 97 ≤ c ∧ c ≤ 100 := by
  have h := of_decide_eq_true h
  simp only [List.mem_cons, List.not_mem_nil, or_false] at h
  rcases h with rfl | rfl | rfl | rfl
  · exact ⟨97, by decide +kernel, by decide, by decide⟩
  · exact ⟨98, by decide +kernel, by decide, by decide⟩
  · exact ⟨99, by decide +kernel, by decide, by decide⟩
  · exact ⟨100, by decide +kernel, by decide, by decide⟩
theorem qC {b : Nat} (hb : b < 15) (l r : List Nat) : QOne (wordC b l r) := fun i j hi hj h1 h2 => by
  obtain ⟨c1, e1, a1, b1⟩ := qd_list h1
  obtain ⟨c2, e2, a2, b2⟩ := qd_list h2
  have e1 : l ++ (97 + (b + 5 * i) % 26) :: r = [113, c1] := by simpa [wordC] using e1
  have e2 : l ++ (97 + (b + 5 * j) % 26) :: r = [113, c2] := by simpa [wordC] using e2
  rw [Nat.mod_eq_of_lt (show b + 5 * i < 26 by omega)] at e1
  rw [Nat.mod_eq_of_lt (show b + 5 * j < 26 by omega)] at e2
  match l, e1, e2 with
  | [], e1, e2 =>
    injection e1 with e1 _
    injection e2 with e2 _
    omega
  | [x], e1, e2 =>
    injection e1 with _ e1
    injection e2 with _ e2
    injection e1 with e1 _
    injection e2 with e2 _
    omega
  | x :: y :: z, e1, e2 =>
    have := congrArg List.length e1
    simp at this
def sp__law_words (K : PySem.W.Frag) : Sp := fun vs H Q _ => ∃ (p : Addr) (m : Int), vs = [.ref p, .int m] ∧ H p = some (poolO p) ∧ 0 ≤ m ∧ m ≤ 15 ∧ ∀ a ws H', H a = none → Same H H' → H' a = some (.lst (ws.map V.str)) → WordsOk ws m.toNat → (m = 3 → ∀ u ∈ ws, ∀ w ∈ ws, isQd u = true → isQd w = true → u = w) → Q (.ref a) H'
def sp__law_flat (K : PySem.W.Frag) : Sp := fun vs H Q _ => ∃ (a : Addr) (t : Bag), vs = [.ref a] ∧ H a = some (.dK (kvOf t)) ∧ (keys t).Nodup ∧ t.length < 64 ∧ ∀ v ys H', Same H H' → Dp K H' v (bagD (tabF t ys)) → ys.Perm (keys t) → ys.Pairwise ltS → Q v H'
def sp__law_held (K : PySem.W.Frag) : Sp := fun vs H Q _ => ∃ (v : V) (ps : Bag), vs = [v] ∧ Dp K H v (bagD ps) ∧ (keys ps).Nodup ∧ ps.length ≤ 100000 ∧ ∀ a H', H a = none → Same H H' → H' a = some (.dK (kvOf ps)) → Q (.ref a) H'
def sp__law_sum (K : PySem.W.Frag) : Sp := fun vs H Q _ => ∃ (v : V) (ps : Bag), vs = [v] ∧ Dp K H v (bagD ps) ∧ ps.length ≤ 100000 ∧ ∀ H', Same H H' → Q (.int (sumC ps)) H'
def sp__law_loaded (K : PySem.W.Frag) : Sp := fun vs H Q _ => ∃ (v : V) (ps : Bag) (a b : Addr) (ws : List Str) (us : List Int), vs = [v, .ref a, .ref b] ∧ Dp K H v (bagD ps) ∧ BagOk ps ∧ SqL K H a (ws.map V.str) ∧ SqL K H b (us.map V.int) ∧ (∀ w ∈ ws, isName w = true) ∧ ws.length = us.length ∧ (∀ u ∈ us, 0 ≤ u) ∧ ps.length + ws.length < 64 ∧ ∀ w qs H', Same H H' → Dp K H' w (bagD qs) → LoadOk ps ws us qs → Q w H'
def sp__law_dealt (K : PySem.W.Frag) : Sp := fun vs H Q _ => ∃ (p : Addr) (m : Nat) (U d : Int), vs = [.ref p, .int (m : Nat), .int U, .int d] ∧ H p = some (poolO p) ∧ m ≤ 1000 ∧ 0 ≤ d ∧ d ≤ 1000 ∧ 0 ≤ U ∧ U ≤ d * m ∧ ∀ (a : Addr) (us : List Int) (H' : Hp), H a = none → Same H H' → H' a = some (.lst (us.map V.int)) → us.length = m → (∀ u ∈ us, 0 ≤ u ∧ u ≤ d) → us.sum = U → Q (.ref a) H'
def sp__law_first_dealt (K : PySem.W.Frag) : Sp := fun vs H Q _ => ∃ (m : Nat) (U d : Int), vs = [.int (m : Nat), .int U, .int d] ∧ 1 ≤ m ∧ m ≤ 1000 ∧ 0 ≤ d ∧ 0 ≤ U ∧ U ≤ d * m ∧ ∀ (a : Addr) (us : List Int) (H' : Hp), H a = none → Same H H' → H' a = some (.lst (us.map V.int)) → us.length = m → (∀ u ∈ us, 0 ≤ u ∧ u ≤ d) → us.sum = U → us[0]? = some (min d U) → Q (.ref a) H'
def sp__law_count_ahead (K : PySem.W.Frag) : Sp := fun vs H Q _ => ∃ (v : V) (qs : Bag) (x : Str), vs = [v, .str x] ∧ Dp K H v (bagD qs) ∧ (keys qs).Nodup ∧ qs.length ≤ 1000 ∧ ∀ H', Same H H' → Q (.int (cntA qs x)) H'
def freshN : List Str := (List.range 16).map fun i => ⟨#[113, 97 + i]⟩
theorem fresh_nd : freshN.Nodup := by decide +kernel
theorem fresh_nam : ∀ w ∈ freshN, isName w = true := by decide +kernel
theorem fresh_len : freshN.length = 16 := by decide +kernel
theorem letters16 : ("abcdefghijklmnop" : Str).cps = ((List.range 16).map fun i => 97 + i).toArray := by decide +kernel
theorem nums_get {K : PySem.W.Frag} {H : Hp} {xs : List V} {cs : List (Int × Str)} {i : Nat} {y : V} (hd : DpAll K H xs (cs.map numD)) (e : xs[i]? = some y) : ∃ q b, cs[i]? = some q ∧ y = .ref b ∧ SqT K H b [.int q.1, .str q.2] := by
  obtain ⟨d, e1, hx⟩ := dps_get hd e
  rw [List.getElem?_map] at e1
  cases h : cs[i]? with
  | none => rw [h] at e1; cases e1
  | some q =>
    rw [h] at e1
    cases (Option.some.inj e1)
    obtain ⟨a, rfl, hs⟩ := num_inv hx
    exact ⟨q, a, rfl, rfl, hs⟩
theorem filt_mem_le {l k : List Str} (h : l.Nodup) : (l.filter fun w => decide (w ∈ k)).length ≤ k.length := nodup_sub_len (h.sublist List.filter_sublist) fun w hw => of_decide_eq_true (List.mem_filter.mp hw).2
theorem fresh_many {ps : Bag} (hl : ps.length ≤ 3) (x : Str) : 12 ≤ ((freshN.filter fun w => !decide (w ∈ keys ps)).filter fun w => !decide (w = x)).length := by
  have h1 := filt_split (fun _ => true) (fun w => decide (w ∈ x :: keys ps)) freshN
  have h2 := filt_mem_le (k := x :: keys ps) fresh_nd
  have e1 : (freshN.filter fun _ => true).length = 16 := by decide +kernel
  have e2 : (x :: keys ps).length ≤ 4 := by unfold keys; rw [List.length_cons, List.length_map]; omega
  have e3 : (freshN.filter fun w => true && decide (w ∈ x :: keys ps)) = freshN.filter fun w => decide (w ∈ x :: keys ps) := List.filter_congr fun w _ => Bool.true_and _
  have e4 : (freshN.filter fun w => true && !decide (w ∈ x :: keys ps)) = (freshN.filter fun w => !decide (w ∈ keys ps)).filter fun w => !decide (w = x) := by
    rw [List.filter_filter]
    refine List.filter_congr fun w _ => ?_
    rw [Bool.true_and, show decide (w ∈ x :: keys ps) = (decide (w = x) || decide (w ∈ keys ps)) from by
      by_cases z : w = x
      · subst z; simp
      · simp [z], Bool.not_or]
  rw [e3] at h1
  rw [e4] at h1
  omega
theorem fm_nums (x : Str) (gs : List (Int × Str)) : (gs.filterMap fun q => if q.2 = x then none else some (numD q)) = (gs.filter fun q => !decide (q.2 = x)).map numD := by
  induction gs with
  | nil => rfl
  | cons q r ih =>
    rw [List.filterMap_cons]
    by_cases z : q.2 = x
    · rw [if_pos z, List.filter_cons_of_neg (by simpa using z), ih]
    · rw [if_neg z, List.filter_cons_of_pos (by simpa using z), List.map_cons, ih]
def gapL (g : Int) (ps : Bag) (l : List Str) : List (Int × Str) := l.map fun y => (max 0 (g - getT ps y), y)
theorem gap_filt {g : Int} {ps : Bag} {x : Str} (l : List Str) : ((gapL g ps l).filter fun q => !decide (q.2 = x)).map (·.1) = (l.filter fun y => !decide (y = x)).map fun y => max 0 (g - getT ps y) := by
  unfold gapL
  induction l with
  | nil => rfl
  | cons y r ih =>
    rw [List.map_cons]
    by_cases z : y = x
    · rw [List.filter_cons_of_neg (by simpa using z), List.filter_cons_of_neg (by simpa using z), ih]
    · rw [List.filter_cons_of_pos (by simpa using z), List.filter_cons_of_pos (by simpa using z), List.map_cons, List.map_cons, ih]
theorem needs_perm {ps : Bag} {x : Str} {g : Int} (hb : BagOk ps) (g1 : 1 ≤ g) {ks F : List Str} (hk : ks.Perm (keys ps)) (hF : ∀ w ∈ F, w ∉ keys ps) :
    (((gapL g ps (ks ++ F)).filter fun q => !decide (q.2 = x)).map (·.1)).Perm (needL g ps x ++ List.replicate (F.filter fun w => !decide (w = x)).length g) := by
  rw [gap_filt, List.filter_append, List.map_append]
  refine List.Perm.append ?_ (List.Perm.of_eq ?_)
  · refine ((hk.filter _).map _).trans (List.Perm.of_eq ?_)
    have : ∀ l : Bag, (∀ p ∈ l, getT ps p.1 = p.2) → ((keys l).filter fun y => !decide (y = x)).map (fun y => max 0 (g - getT ps y)) = needL g l x := fun l => by
      unfold needL keys
      induction l with
      | nil => intro _; rfl
      | cons p r ih =>
        intro h
        have ih := ih fun q hq => h q (List.mem_cons_of_mem _ hq)
        have e := h p List.mem_cons_self
        rw [List.map_cons]
        by_cases z : p.1 = x
        · rw [List.filter_cons_of_neg (by simpa using z), List.filter_cons_of_neg (by simpa using z), ih]
        · rw [List.filter_cons_of_pos (by simpa using z), List.filter_cons_of_pos (by simpa using z), List.map_cons, List.map_cons, ih, e]
          congr 1
          split <;> omega
    exact this ps fun p hp => getT_mem hb.tab.nd hp
  · refine List.eq_replicate_iff.mpr ⟨by rw [List.length_map], fun v hv => ?_⟩
    obtain ⟨w, hw, rfl⟩ := List.mem_map.mp hv
    rw [getT_no (hF w (List.mem_filter.mp hw).1)]
    omega
theorem zero_zip : ∀ cs : List (Int × Str), (cs.map fun q => (q.2, (0 : Int))) = (cs.map (·.2)).zip (List.replicate (cs.map (·.1)).length 0)
  | [] => rfl
  | q :: r => by
    rw [List.map_cons, List.map_cons, List.map_cons, List.length_cons, List.replicate_succ, List.zip_cons_cons, zero_zip r]
def sp__law_raised (K : PySem.W.Frag) : Sp := fun vs H Q _ => ∃ (c d : Int) (v : V) (ps : Bag) (x : Str), vs = [.int c, v, .int d, .str x] ∧ 1 ≤ c ∧ c ≤ 3 ∧ 0 ≤ d ∧ d ≤ 3 ∧ Dp K H v (bagD ps) ∧ BagOk ps ∧ ps.length ≤ 3 ∧ isName x = true ∧ ∀ w qs H', Same H H' → Dp K H' w (bagD qs) → BagOk qs → qs.length < 64 → FitB ps d (sumC ps + d * (c + 1)) qs → cntA qs x = aheadL c d ps x → Q w H'
def qds : List Str := ["qa", "qb", "qc", "qd"]
theorem qds_nd : qds.Nodup := by decide +kernel
theorem qds_nam : ∀ w ∈ qds, isName w = true := by decide +kernel
theorem qd_many {x y : Str} (h : isQd x = true → isQd y = true → x = y) : 3 ≤ (qds.filter fun w => !decide (w ∈ [x, y])).length := by
  have h1 := filt_split (fun _ => true) (fun w => decide (w ∈ [x, y])) qds
  have e1 : (qds.filter fun _ => true).length = 4 := by decide +kernel
  have e3 : (qds.filter fun w => true && decide (w ∈ [x, y])) = qds.filter fun w => decide (w ∈ [x, y]) := List.filter_congr fun w _ => Bool.true_and _
  have e4 : (qds.filter fun w => true && !decide (w ∈ [x, y])) = qds.filter fun w => !decide (w ∈ [x, y]) := List.filter_congr fun w _ => Bool.true_and _
  rw [e1, e3, e4] at h1
  have nd : (qds.filter fun w => decide (w ∈ [x, y])).Nodup := qds_nd.sublist List.filter_sublist
  have h2 : (qds.filter fun w => decide (w ∈ [x, y])).length ≤ 1 := by
    cases hx : isQd x with
    | true =>
      refine nodup_sub_len nd (b := [x]) fun w hw => ?_
      obtain ⟨m1, m2⟩ := List.mem_filter.mp hw
      have m2 := of_decide_eq_true m2
      simp only [List.mem_cons, List.not_mem_nil, or_false] at m2
      rcases m2 with rfl | rfl
      · exact List.mem_singleton.mpr rfl
      · rw [h hx (decide_eq_true m1)]; exact List.mem_singleton.mpr rfl
    | false =>
      refine nodup_sub_len nd (b := [y]) fun w hw => ?_
      obtain ⟨m1, m2⟩ := List.mem_filter.mp hw
      have m2 := of_decide_eq_true m2
      simp only [List.mem_cons, List.not_mem_nil, or_false] at m2
      rcases m2 with rfl | rfl
      · have : isQd w = true := decide_eq_true m1
        rw [hx] at this; cases this
      · exact List.mem_singleton.mpr rfl
  omega
def sp__law_pairs_right (K : PySem.W.Frag) : Sp := fun vs H Q _ => ∃ (b v : V) (c d : Int) (ps : Bag) (S a : Addr) (xs : List V) (bs : List Bag) (ws : List Str), vs = [b, v, .int d, .ref S, .ref a] ∧ SumO K H b c ps ∧ SumV c ps ∧ c ≤ 3 ∧ 0 ≤ d ∧ d ≤ 3 ∧ Dp K H v (bagD ps) ∧ SqL K H S xs ∧ DpAll K H xs (bs.map bagD) ∧ bs.length ≤ 8 ∧ (∀ qs ∈ bs, FitB ps d (sumC ps + d * (c + 1)) qs ∧ BagOk qs ∧ qs.length ≤ 12) ∧ SqL K H a (ws.map V.str) ∧ ws.length ≤ 12 ∧ (∀ w ∈ ws, isName w = true) ∧ (∀ u ∈ ws, ∀ w ∈ ws, isQd u = true → isQd w = true → u = w) ∧ ∀ H', Same H H' → Q (.bl true) H'
theorem dat_keys {P : Int → Prop} : ∀ {ds : List PyData} {us : List Str}, ds.length = us.length → (∀ (i : Nat) (e : PyData), ds[i]? = some e → ∃ y n, us[i]? = some y ∧ P n ∧ e = pairD (y, n)) → ∃ bs : Bag, ds = bs.map pairD ∧ keys bs = us ∧ ∀ p ∈ bs, P p.2
  | [], [], _, _ => ⟨[], rfl, rfl, nofun⟩
  | d :: ds, u :: us, hl, h => by
    obtain ⟨y, n, e1, e2, e3⟩ := h 0 d rfl
    obtain ⟨bs, q1, q2, q3⟩ := dat_keys (ds := ds) (us := us) (by simpa using hl) fun i e he => h (i + 1) e he
    have e1 : u = y := by simpa using e1
    subst e1
    refine ⟨(u, n) :: bs, by rw [List.map_cons, e3, q1], by show u :: keys bs = _; rw [q2], fun p hp => ?_⟩
    rcases List.mem_cons.mp hp with rfl | hp
    · exact e2
    · exact q3 p hp
def q7s : List Str := ["qa", "qb", "qc", "qd", "qe", "qf", "qg"]
theorem q7_nd : q7s.Nodup := by decide +kernel
theorem q7_nam : ∀ w ∈ q7s, isName w = true := by decide +kernel
theorem filt_mem_le' {l k : List Str} (h : l.Nodup) : (l.filter fun w => decide (w ∈ k)).length ≤ k.length := nodup_sub_len (h.sublist List.filter_sublist) fun w hw => of_decide_eq_true (List.mem_filter.mp hw).2
theorem q7_many {ws : List Str} (hl : ws.length = 3) : 4 ≤ (q7s.filter fun w => !decide (w ∈ ws)).length := by
  have h1 := filt_split (fun _ => true) (fun w => decide (w ∈ ws)) q7s
  have h2 := filt_mem_le' (k := ws) q7_nd
  have e1 : (q7s.filter fun _ => true).length = 7 := by decide +kernel
  have e3 : (q7s.filter fun w => true && decide (w ∈ ws)) = q7s.filter fun w => decide (w ∈ ws) := List.filter_congr fun w _ => Bool.true_and _
  have e4 : (q7s.filter fun w => true && !decide (w ∈ ws)) = q7s.filter fun w => !decide (w ∈ ws) := List.filter_congr fun w _ => Bool.true_and _
  rw [e3, e4] at h1
  omega
theorem load_len {ps qs : Bag} {ws : List Str} {us : List Int} {d : Int} (h : LoadOk ps ws us qs) (hd : 0 ≤ d) (hu : ∀ u ∈ us, 0 ≤ u ∧ u ≤ d) (nd : ws.Nodup) (hs : ∀ n ∈ keys ps, n ∈ ws) : qs.length ≤ ws.length := by
  have := nodup_sub_len h.ok.tab.nd (b := ws) fun n hn => by
    obtain ⟨q, hq, rfl⟩ := List.mem_map.mp hn
    by_cases z : q.1 ∈ ws
    · exact z
    · exfalso
      have h1 := h.get q.1
      rw [getT_mem h.ok.tab.nd hq, getT_no (fun y => z (hs _ y)), (cnt_zip hd hu nd q.1).2 z] at h1
      have := h.ok.pos q hq
      omega
  unfold keys at this
  rw [List.length_map] at this
  exact this
theorem sumC_le5 : ∀ {ps : Bag}, (∀ p ∈ ps, p.2 ≤ 5) → sumC ps ≤ 5 * ps.length
  | [], _ => by simp [sumC]
  | p :: r, h => by
    have h1 := sumC_le5 (ps := r) fun q hq => h q (List.mem_cons_of_mem _ hq)
    have h2 := h p List.mem_cons_self
    rw [sumC_cons, List.length_cons]
    omega
theorem flat_bgs (zss : List Bag) : flatDs (zss.map bagD) = true := by
  induction zss with
  | nil => rfl
  | cons z r ih => show (flatD (bagD z) && flatDs (r.map bagD)) = true; rw [flat_bag z, ih]; rfl
def sp__law_right (K : PySem.W.Frag) : Sp := fun vs H Q _ => ∃ (p : Addr), vs = [.ref p] ∧ H p = some (poolO p) ∧ ∀ H', Same H H' → Q (.bl true) H'
def sp_law (K : PySem.W.Frag) : Sp := fun vs H Q _ => ∃ (a : Addr) (ns : List Int), vs = [.ref a] ∧ SqL K H a (ns.map V.int) ∧ ns.length ≤ 63 ∧ ∀ H', Q (.bl true) H'
theorem ok_is_whole {P : Program} {w : World} {K : PySem.W.Frag} {mg : Str → Option Value} {base : Heap} (fr : Fre mg) (D : Dfd K mg "is_whole" s_is_whole) : Has P w K mg base CX0 1 "is_whole" s_is_whole ["thing"] (sp_is_whole K) := by
  refine D.has sc_is_whole (fun vs H Q E h => ?_) (fun cdv A outer s H vs Q E hr hg h => ?_)
  · obtain ⟨v, d, rfl, _⟩ := h; rfl
  · obtain ⟨v, d, rfl, hd, k⟩ := h
    have nd := sc_is_whole.nd
    refine ⟨_, PSs.nox (pss_one (ps_ret (pe_and (pe_callB (k_isi K) rfl fr.isinstance_ (by decide +kernel) (pa_cons (pv 0) (pa_cons (pe_bltn (v := .ty "int") rfl fr.int_ boot_int rfl) pa_nil))) (pe_one (pe_not (pe_callB (k_isi K) rfl fr.isinstance_ (by decide +kernel) (pa_cons (pv 0) (pa_cons (pe_bltn (v := .ty "bool") rfl fr.bool_ boot_bool rfl) pa_nil)))))))), ?_⟩
    try dsimp only [cxOf]
    tm_at "wp"
    refine w_isiD hd (isi_int d) ?_
    cases d
    all_goals first
      | (refine w_bl (w_iteF ?_); tm_at "wp"; exact k)
      | (refine w_bl (w_iteT ?_); tm_at "wp"; refine w_isiD hd (isi_bool _) ?_; tm_at "wp"; exact k)
theorem ok_is_from {P : Program} {w : World} {K : PySem.W.Frag} {mg : Str → Option Value} {base : Heap} (fr : Fre mg) (D : Dfd K mg "is_from" s_is_from)
    (h_is_whole : Has P w K mg base CX0 1 "is_whole" s_is_whole ["thing"] (sp_is_whole K)) : Has P w K mg base CX0 2 "is_from" s_is_from ["thing", "least"] (sp_is_from K) := by
  refine D.has sc_is_from (fun vs H Q E h => ?_) (fun cdv A outer s H vs Q E hr hg h => ?_)
  · obtain ⟨v, d, j, rfl, _⟩ := h; rfl
  · obtain ⟨v, d, j, rfl, hd, k⟩ := h
    have nd := sc_is_from.nd
    refine ⟨_, PSs.nox (pss_one (ps_ret (pe_and (pe_fn h_is_whole pb_is_whole (hr.mono (by decide)) hg rfl pass0 (pa_cons (pv 0) pa_nil)) (pe_one (pe_cmpR op_ge (pv 0) (pv 1) (nomark _)))))), ?_⟩
    try dsimp only [cxOf]
    tm_at "wp"
    refine ⟨v, d, rfl, hd, ?_⟩
    cases d
    case int i =>
      cases dp_int_inv hd
      refine w_bl (w_iteT ?_)
      tm_at "wp"
      exact k
    all_goals (refine w_bl (w_iteF ?_); tm_at "wp"; exact k)
theorem ok_is_between {P : Program} {w : World} {K : PySem.W.Frag} {mg : Str → Option Value} {base : Heap} (fr : Fre mg) (D : Dfd K mg "is_between" s_is_between)
    (h_is_whole : Has P w K mg base CX0 1 "is_whole" s_is_whole ["thing"] (sp_is_whole K)) : Has P w K mg base CX0 2 "is_between" s_is_between ["thing", "least", "most"] (sp_is_between K) := by
  refine D.has sc_is_between (fun vs H Q E h => ?_) (fun cdv A outer s H vs Q E hr hg h => ?_)
  · obtain ⟨v, d, i, j, rfl, _⟩ := h; rfl
  · obtain ⟨v, d, i, j, rfl, hd, k⟩ := h
    have nd := sc_is_between.nd
    refine ⟨_, PSs.nox (pss_one (ps_ret (pe_and (pe_fn h_is_whole pb_is_whole (hr.mono (by decide)) hg rfl pass0 (pa_cons (pv 0) pa_nil)) (pe_one (pe_chain op_le op_le (pv 1) (pv 0) (pv 2)))))), ?_⟩
    try dsimp only [cxOf]
    tm_at "wp"
    refine ⟨v, d, rfl, hd, ?_⟩
    cases d
    case int n =>
      cases dp_int_inv hd
      refine w_bl (w_iteT ?_)
      tm_at "wp"
      refine w_ited (fun h => ?_) (fun h => ?_)
      · tm_at "wp"
        have e : betD (.int n) i j = decide (n ≤ j) := by show (decide (i ≤ n) && decide (n ≤ j)) = _; rw [decide_eq_true h]; rfl
        rw [e] at k
        exact k
      · have e : betD (.int n) i j = false := by show (decide (i ≤ n) && decide (n ≤ j)) = _; rw [decide_eq_false h]; rfl
        rw [e] at k
        exact k
    all_goals (refine w_bl (w_iteF ?_); tm_at "wp"; exact k)
theorem ok_is_capacity {P : Program} {w : World} {K : PySem.W.Frag} {mg : Str → Option Value} {base : Heap} (fr : Fre mg) (c_MAX_CAPACITY : ∃ t, mg "MAX_CAPACITY" = some (.int 8 t)) (D : Dfd K mg "is_capacity" s_is_capacity)
    (h_is_between : Has P w K mg base CX0 2 "is_between" s_is_between ["thing", "least", "most"] (sp_is_between K)) : Has P w K mg base CX0 3 "is_capacity" s_is_capacity ["thing"] (sp_is_capacity K) := by
  refine D.has sc_is_capacity (fun vs H Q E h => ?_) (fun cdv A outer s H vs Q E hr hg h => ?_)
  · obtain ⟨v, d, rfl, _⟩ := h; rfl
  · obtain ⟨v, d, rfl, hd, k⟩ := h
    obtain ⟨_, g_MAX_CAPACITY⟩ := c_MAX_CAPACITY
    have nd := sc_is_capacity.nd
    refine ⟨_, PSs.nox (pss_one (ps_ret (pe_fn h_is_between pb_is_between (hr.mono (by decide)) hg rfl pass0 (pa_cons (pv 0) (pa_cons pe_int (pa_cons (pe_glob (v := .int 8) rfl g_MAX_CAPACITY ⟨_, rfl⟩) pa_nil)))))), ?_⟩
    try dsimp only [cxOf]
    tm_at "wp"
    exact ⟨v, d, 1, 8, rfl, hd, k⟩
theorem ok_is_name {P : Program} {w : World} {K : PySem.W.Frag} {mg : Str → Option Value} {base : Heap} (fr : Fre mg) (c_LETTERS : ∃ t, mg "LETTERS" = some (.str "abcdefghijklmnopqrstuvwxyz" t)) (D : Dfd K mg "is_name" s_is_name) : Has P w K mg base CX0 1 "is_name" s_is_name ["thing"] (sp_is_name K) := by
  refine D.has sc_is_name (fun vs H Q E h => ?_) (fun cdv A outer s H vs Q E hr hg h => ?_)
  · obtain ⟨v, d, rfl, _⟩ := h; rfl
  · obtain ⟨v, d, rfl, hd, hz, k⟩ := h
    obtain ⟨_, g_LETTERS⟩ := c_LETTERS
    have nd := sc_is_name.nd
    refine ⟨_, PSs.nox (pss_one (ps_ret (pe_and (pe_callB (k_isi K) rfl fr.isinstance_ (by decide +kernel) (pa_cons (pv 0) (pa_cons (pe_bltn (v := .ty "str") rfl fr.str_ boot_str rfl) pa_nil))) (pe_and (pe_chain op_lt op_lt pe_int (pe_callB (k_len K) rfl fr.len_ (by decide +kernel) (pa_cons (pv 0) pa_nil)) pe_int) (pe_one (pe_callB (k_all K rfl) rfl fr.all_ (by decide +kernel) (pa_cons (pe_lc (own := [("letter", 1)]) (g := gName 1) (tt := tYes) rfl nd (pi_str (pv 0)) (blkOk_by (own := [("letter", 1)]) (N := N_is_name) (sc := defScope s_is_name) (by decide +kernel)) (fun _ _ _ _ _ => (pg_name (i := 1) nd rfl (Or.inl rfl))) (fun _ _ _ _ _ => pts_nil) (fun _ _ _ _ _ => (pe_cmpR o_inSign (pv 1) (pe_glob (v := .str "abcdefghijklmnopqrstuvwxyz") rfl g_LETTERS ⟨_, rfl⟩) rfl))) pa_nil))))))), ?_⟩
    try dsimp only [cxOf]
    tm_at "wp"
    refine w_isiD hd (isi_str d) ?_
    cases d
    case str x =>
      cases dp_str_inv hd
      have hx : x.length ≤ 100000 := by simpa [szD] using hz
      have kk : ∀ H' b, Same H H' → b = isName x → Q (.bl b) H' := fun H' b s e => by rw [e]; exact k H' s
      refine w_bl (w_iteT ?_)
      tm_at "wp"
      refine w_lenS (sz_le hx) ?_
      tm_at "wp"
      refine w_ited (fun h1 => ?_) (fun h1 => ?_)
      · tm_at "wp"
        refine w_iteb (fun h2 => ?_) (fun h2 => ?_)
        · tm_at "wp"
          intro D0 hD
          refine lc_map walk_str (n := x.cps.size) (by have : x.length = x.cps.size := rfl; omega) (fun i y => ∃ c, x.cps.toList[i]? = some c ∧ y = .bl (isLet c)) hD (fun _ _ => trivial) ?_ ?_ mono_gname
          · rintro i y H1 H2 hi s ⟨rfl, c, hc, rfl⟩ Qy hq
            refine w_gname ⟨rfl, ?_⟩
            tm_at "wp"
            refine hq _ _ (Same.refl _) ⟨c, by simpa using hc, ?_⟩
            show V.bl (decide (c ∈ letters.cps.toList)) = _
            rw [mem_letters]
          · intro acc H1 s _ hacc hl hf
            have e : acc = (x.cps.toList.map isLet).map V.bl := by
              rw [List.map_map]
              exact acc_map (by simpa using hl) hf
            rw [e] at hacc
            refine w_all (SqL.of hacc) ?_
            refine kk _ _ s ?_
            rw [all_map_id]
            unfold isName
            rw [decide_eq_true (show 0 < x.length by omega), decide_eq_true (show x.length < 9 by have := of_decide_eq_true h2; omega)]
            simp
        · refine kk _ _ (Same.refl _) ?_
          unfold isName
          rw [decide_eq_false (show ¬ x.length < 9 by have := of_decide_eq_false h2; omega)]
          simp
      · refine w_bl (w_iteF ?_)
        refine kk _ _ (Same.refl _) ?_
        unfold isName
        rw [decide_eq_false (show ¬ 0 < x.length by omega)]
        simp
    all_goals (refine w_bl (w_iteF ?_); tm_at "wp"; exact k _ (Same.refl _))
theorem ok_is_run {P : Program} {w : World} {K : PySem.W.Frag} {mg : Str → Option Value} {base : Heap} (fr : Fre mg) (D : Dfd K mg "is_run" s_is_run)
    (h_is_from : Has P w K mg base CX0 2 "is_from" s_is_from ["thing", "least"] (sp_is_from K))
    (h_is_name : Has P w K mg base CX0 1 "is_name" s_is_name ["thing"] (sp_is_name K)) : Has P w K mg base CX0 3 "is_run" s_is_run ["thing"] (sp_is_run K) := by
  refine D.has sc_is_run (fun vs H Q E h => ?_) (fun cdv A outer s H vs Q E hr hg h => ?_)
  · obtain ⟨v, d, rfl, _⟩ := h; rfl
  · obtain ⟨v, d, rfl, hd, hz, k⟩ := h
    have nd := sc_is_run.nd
    refine ⟨_, PSs.nox (pss_one (ps_ret (pe_and (pe_callB (k_isi K) rfl fr.isinstance_ (by decide +kernel) (pa_cons (pv 0) (pa_cons (pe_bltn (v := .ty "tuple") rfl fr.tuple_ boot_tuple rfl) pa_nil))) (pe_and (pe_cmpR op_eq (pe_callB (k_len K) rfl fr.len_ (by decide +kernel) (pa_cons (pv 0) pa_nil)) pe_int (nomark _)) (pe_and (pe_fn h_is_name pb_is_name (hr.mono (by decide)) hg rfl pass0 (pa_cons (pe_ix (k_ixT K) (pv 0) pe_int (fun _ _ => rfl)) pa_nil)) (pe_one (pe_fn h_is_from pb_is_from (hr.mono (by decide)) hg rfl pass0 (pa_cons (pe_ix (k_ixT K) (pv 0) pe_int (fun _ _ => rfl)) (pa_cons pe_int pa_nil))))))))), ?_⟩
    try dsimp only [cxOf]
    tm_at "wp"
    refine w_isiD hd (isi_tup d) ?_
    cases d
    case tuple ds =>
      obtain ⟨a, xs, rfl, hs, hx⟩ := dp_tup_inv hd
      have hl := dps_len hx
      refine w_bl (w_iteT ?_)
      tm_at "wp"
      refine w_lenT hs ?_
      tm_at "wp"
      refine w_ited (fun h1 => ?_) (fun h1 => ?_)
      · obtain ⟨d0, d1, rfl⟩ : ∃ d0 d1, ds = [d0, d1] := by
          match ds, (by omega : ds.length = 2) with
          | [d0, d1], _ => exact ⟨d0, d1, rfl⟩
        cases hx with
        | @cons v0 _ _ _ r0 hx =>
        cases hx with
        | @cons v1 _ _ _ r1 hx =>
        cases hx
        have z0 : szD d0 = true := szDs_get (ds := [d0, d1]) (i := 0) (by simpa [szD] using hz) rfl
        tm_at "wp"
        refine w_ixT hs (v := v0) rfl ?_
        tm_at "wp"
        refine ⟨v0, d0, rfl, r0, z0, fun H1 s1 => ?_⟩
        refine w_bl (w_iteb (fun h3 => ?_) (fun h3 => ?_))
        · tm_at "wp"
          refine w_ixT (sqt_same s1 hs) (v := v1) rfl ?_
          tm_at "wp"
          refine ⟨v1, d1, 1, rfl, dp_same s1 r1, ?_⟩
          have e : runD (.tuple [d0, d1]) = fromD d1 1 := by show (nameD d0 && fromD d1 1) = _; rw [h3]; rfl
          rw [e] at k
          exact k _ s1
        · have e : runD (.tuple [d0, d1]) = false := by show (nameD d0 && fromD d1 1) = _; rw [h3]; rfl
          rw [e] at k
          exact k _ s1
      · have e : runD (.tuple ds) = false := by
          unfold runD
          split
          · exfalso; rename_i heq; injection heq with heq; subst heq; exact h1 (by rw [hl]; rfl)
          · rfl
        rw [e] at k
        tm_at "wp"
        exact k _ (Same.refl _)
    all_goals (refine w_bl (w_iteF ?_); tm_at "wp"; exact k _ (Same.refl _))
theorem ok_first_invalid {P : Program} {w : World} {K : PySem.W.Frag} {mg : Str → Option Value} {base : Heap} (fr : Fre mg) (D : Dfd K mg "first_invalid" s_first_invalid)
    (h_is_run : Has P w K mg base CX0 3 "is_run" s_is_run ["thing"] (sp_is_run K)) : Has P w K mg base CX0 4 "first_invalid" s_first_invalid ["thing", "most"] (sp_first_invalid K) := by
  refine D.has sc_first_invalid (fun vs H Q E h => ?_) (fun cdv A outer s H vs Q E hr hg h => ?_)
  · obtain ⟨v, ds, m, rfl, _⟩ := h; rfl
  · obtain ⟨v, ds, m, rfl, hd, hz, k⟩ := h
    have nd := sc_first_invalid.nd
    refine ⟨_, PSs.nox (pss_cons (ps_for PassesOwn.never rfl (k_iEnumT K rfl fr.enumerate_ (pa_cons (pv 0) pa_nil)) (k_gtup K rfl (pgs_cons (pg_name (i := 2) nd rfl (Or.inl rfl)) (pgs_cons (pg_name (i := 3) nd rfl (Or.inl rfl)) pgs_nil)))
        (pss_one (ps_if (PW.pt (pw_or (pt_cmpR op_ge (pv 2) (pv 1) (nomark _)) (pw_or (pt_not (pt_val (pe_fn h_is_run pb_is_run (hr.mono (by decide)) hg rfl pass0 (pa_cons (pv 3) pa_nil)))) (pw_or1 (PW.pt (pw_and (pt_cmpR op_gt (pv 2) pe_int (nomark _)) (pw_and1 (pt_cmpR o_leS (pe_ix (k_ixT K) (pv 3) pe_int (fun _ _ => rfl)) (pe_ix (k_ixT K) (pe_ix (k_ixT K) (pv 0) (pe_op op_sub (pv 2) pe_int) (fun _ _ => rfl)) pe_int (fun _ _ => rfl)) (nomark _))))))))) (pss_one (ps_ret (pv 2))) pss_nil)))
      (pss_one (ps_ret pe_non))), ?_⟩
    try dsimp only [cxOf]
    obtain ⟨a, xs, rfl, hs, hx⟩ := dp_tup_inv hd
    have hl := dps_len hx
    tm_at "wp"
    refine w_onE hs ?_
    refine for_go (walk_enumT (xs := xs)) (fun i σ H' => ∃ u w, σ = [some (.ref a), some (.int m), u, w] ∧ Same H H' ∧ ∀ j, j < i → badAt ds m j = false) ⟨none, none, rfl, Same.refl _, fun j h => by omega⟩ (fun i σ H' _ ⟨_, _, _, s, _⟩ => sqt_same s hs) ?_ ?_
    · rintro i v σ H1 H2 hi ⟨u, w, rfl, s1, hp⟩ ⟨T, y, x, rfl, hT, rfl, ey, ex⟩
      cases (Option.some.inj ey)
      obtain ⟨d, e1, e2⟩ := dps_get hx ex
      have hgd := getD_of e1
      have s2 : Same H (upd H1 T (.tup [.int (i : Nat), x])) := same_step s1 hT
      refine w_gtup (SqT.of upd_same) rfl ?_
      tm_at "wp"
      have hbad : ∀ c, badAt ds m i = c → c = (decide (m ≤ (i : Int)) || (!runD d || (decide (0 < i) && !decide (ltS (nmD (ds.getD (i - 1) .none)) (nmD d))))) := fun c e => by rw [← e]; unfold badAt; rw [hgd]
      have ret : badAt ds m i = true → ∀ H', Same H H' → Q (.int (i : Nat)) H' := fun hb H' s' => by
        have e := firstBad_some (by omega) hb hp
        rw [e] at k
        exact k H' s'
      have nxt : badAt ds m i = false → ∀ j, j < i + 1 → badAt ds m j = false := fun hb j hj => by
        by_cases e : j = i
        · rw [e]; exact hb
        · exact hp j (by omega)
      refine w_ited (fun h1 => ?_) (fun h1 => ?_)
      · tm_at "wp"
        refine ret ?_ _ s2
        unfold badAt
        rw [decide_eq_true h1]; rfl
      · tm_at "wp"
        refine ⟨x, d, rfl, dp_same s2 e2, szDs_get hz e1, fun H3 s3 => ?_⟩
        have s4 := s2.trans s3
        refine w_bl ?_
        refine w_itenb (fun h2 => ?_) (fun h2 => ?_)
        · tm_at "wp"
          refine ret ?_ _ s4
          unfold badAt
          rw [hgd, h2]; simp
        · tm_at "wp"
          obtain ⟨b, nx, wx, rfl, hb, en⟩ := run_inv e2 h2
          refine w_ited (fun h3 => ?_) (fun h3 => ?_)
          · tm_at "wp"
            refine w_ixT (sqt_same s4 hb) (v := .str nx) rfl ?_
            tm_at "wp"
            have hi0 : i - 1 < ds.length := by omega
            have g0 : badAt ds m (i - 1) = false := hp (i - 1) (by omega)
            obtain ⟨v1, q1, q2⟩ := dps_get' hx (List.getElem?_eq_getElem hi0)
            have r1 : runD ds[i - 1] = true := by
              unfold badAt at g0
              rw [getD_of (List.getElem?_eq_getElem hi0)] at g0
              cases z : runD ds[i - 1]
              · rw [z] at g0; simp at g0
              · rfl
            obtain ⟨b1, nx1, wx1, rfl, hb1, en1⟩ := run_inv q2 r1
            refine w_ixT (sqt_same s4 hs) (v := .ref b1) ?_ ?_
            · have e : ((i : Nat) : Int) - 1 = ((i - 1 : Nat) : Int) := by omega
              rw [e]; exact atI_nat q1
            tm_at "wp"
            refine w_ixT (sqt_same s4 hb1) (v := .str nx1) rfl ?_
            tm_at "wp"
            have key : badAt ds m i = !decide (ltS nx1 nx) := by
              unfold badAt
              rw [hgd, getD_of (List.getElem?_eq_getElem hi0), h2, en, en1, decide_eq_false h1, decide_eq_true (show 0 < i by omega)]
              simp
            refine w_iten (fun h4 => ?_) (fun h4 => ?_)
            · tm_at "wp"
              refine ret ?_ _ s4
              rw [key, decide_eq_false (show ¬ ltS nx1 nx from h4)]; rfl
            · tm_at "wp"
              refine ⟨_, _, rfl, s4, nxt ?_⟩
              rw [key, decide_eq_true (show ltS nx1 nx from h4)]; rfl
          · tm_at "wp"
            refine ⟨_, _, rfl, s4, nxt ?_⟩
            unfold badAt
            rw [hgd, h2, decide_eq_false h1, decide_eq_false (show ¬ 0 < i by omega)]; rfl
    · rintro σ H1 ⟨u, w, rfl, s1, hp⟩
      tm_at "wp"
      have e := firstBad_none (ds := ds) (m := m) fun j hj => hp j (by omega)
      rw [e] at k
      exact k _ s1
theorem ok_check_counts {P : Program} {w : World} {K : PySem.W.Frag} {mg : Str → Option Value} {base : Heap} (fr : Fre mg) (c_MAX_NAMES : ∃ t, mg "MAX_NAMES" = some (.int 12 t)) (D : Dfd K mg "check_counts" s_check_counts)
    (h_first_invalid : Has P w K mg base CX0 4 "first_invalid" s_first_invalid ["thing", "most"] (sp_first_invalid K)) : Has P w K mg base CX0 5 "check_counts" s_check_counts ["thing"] (sp_check_counts K) := by
  refine D.has sc_check_counts (fun vs H Q E h => ?_) (fun cdv A outer s H vs Q E hr hg h => ?_)
  · obtain ⟨v, ds, rfl, _⟩ := h; rfl
  · obtain ⟨v, ds, rfl, hd, hz, hb, k⟩ := h
    obtain ⟨_, g_MAX_NAMES⟩ := c_MAX_NAMES
    have nd := sc_check_counts.nd
    refine ⟨_, PSs.nox (pss_cons (ps_if (pt_not (pt_val (pe_callB (k_isi K) rfl fr.isinstance_ (by decide +kernel) (pa_cons (pv 0) (pa_cons (pe_bltn (v := .ty "tuple") rfl fr.tuple_ boot_tuple rfl) pa_nil))))) (pss_one ps_never) pss_nil)
      (pss_cons (ps_set (i := 1) nd rfl (Or.inl rfl) (pe_fn h_first_invalid pb_first_invalid (hr.mono (by decide)) hg rfl pass0 (pa_cons (pv 0) (pa_cons (pe_glob (v := .int 12) rfl g_MAX_NAMES ⟨_, rfl⟩) pa_nil))))
      (pss_one (ps_if (pt_cmpR o_notN (pv 1) pe_non (nomark _)) (pss_one ps_never) pss_nil)))), ?_⟩
    try dsimp only [cxOf]
    tm_at "wp"
    refine w_isiD hd (isi_tup _) ?_
    refine w_bl ?_
    refine w_nott ?_
    tm_at "wp"
    refine ⟨v, ds, 12, rfl, hd, hz, fun H1 s1 => ?_⟩
    rw [show optV (firstBad ds 12) = .non by rw [hb]; rfl]
    tm_at "wp"
    exact k _ s1
theorem ok_check_capacity {P : Program} {w : World} {K : PySem.W.Frag} {mg : Str → Option Value} {base : Heap} (fr : Fre mg) (D : Dfd K mg "check_capacity" s_check_capacity)
    (h_is_capacity : Has P w K mg base CX0 3 "is_capacity" s_is_capacity ["thing"] (sp_is_capacity K)) : Has P w K mg base CX0 4 "check_capacity" s_check_capacity ["thing"] (sp_check_capacity K) := by
  refine D.has sc_check_capacity (fun vs H Q E h => ?_) (fun cdv A outer s H vs Q E hr hg h => ?_)
  · obtain ⟨c, rfl, _⟩ := h; rfl
  · obtain ⟨c, rfl, h1, h8, k⟩ := h
    have nd := sc_check_capacity.nd
    refine ⟨_, PSs.nox (pss_one (ps_if (pt_not (pt_val (pe_fn h_is_capacity pb_is_capacity (hr.mono (by decide)) hg rfl pass0 (pa_cons (pv 0) pa_nil)))) (pss_one ps_never) pss_nil)), ?_⟩
    try dsimp only [cxOf]
    tm_at "wp"
    refine ⟨.int c, .int c, rfl, .int c, ?_⟩
    have e : betD (.int c) 1 8 = true := by show (decide (1 ≤ c) && decide (c ≤ 8)) = true; rw [decide_eq_true h1, decide_eq_true h8]; rfl
    rw [e]
    refine w_bl ?_
    refine w_nott ?_
    tm_at "wp"
    exact k
theorem ok_check_name {P : Program} {w : World} {K : PySem.W.Frag} {mg : Str → Option Value} {base : Heap} (fr : Fre mg) (D : Dfd K mg "check_name" s_check_name)
    (h_is_name : Has P w K mg base CX0 1 "is_name" s_is_name ["thing"] (sp_is_name K)) : Has P w K mg base CX0 2 "check_name" s_check_name ["thing"] (sp_check_name K) := by
  refine D.has sc_check_name (fun vs H Q E h => ?_) (fun cdv A outer s H vs Q E hr hg h => ?_)
  · obtain ⟨x, rfl, _⟩ := h; rfl
  · obtain ⟨x, rfl, hn, k⟩ := h
    have nd := sc_check_name.nd
    refine ⟨_, PSs.nox (pss_one (ps_if (pt_not (pt_val (pe_fn h_is_name pb_is_name (hr.mono (by decide)) hg rfl pass0 (pa_cons (pv 0) pa_nil)))) (pss_one ps_never) pss_nil)), ?_⟩
    try dsimp only [cxOf]
    tm_at "wp"
    refine ⟨.str x, .str x, rfl, .str x, by simp [szD]; have := (isName_len hn).2; omega, fun H1 s1 => ?_⟩
    refine w_bl ?_
    show if (!(isName x)) = true then _ else _
    rw [hn]
    refine w_nott ?_
    tm_at "wp"
    exact k _ s1
theorem ok_sum_of {P : Program} {w : World} {K : PySem.W.Frag} {mg : Str → Option Value} {base : Heap} (fr : Fre mg) (D : Dfd K mg "sum_of" s_sum_of) : Has P w K mg base CX0 1 "sum_of" s_sum_of ["pairs"] (sp_sum_of K) := by
  refine D.has sc_sum_of (fun vs H Q E h => ?_) (fun cdv A outer s H vs Q E hr hg h => ?_)
  · obtain ⟨v, ps, rfl, _⟩ := h; rfl
  · obtain ⟨v, ps, rfl, hd, hn, k⟩ := h
    have nd := sc_sum_of.nd
    refine ⟨_, PSs.nox (pss_one (ps_ret (pe_callB (k_sum K rfl) rfl fr.sum_ (by decide +kernel) (pa_cons (pe_lc (own := [("name", 1), ("count", 2)]) (g := gTup K 2 (gCons (gName 1) (gCons (gName 2) gNil))) (tt := tYes) rfl nd (k_iTup K (pv 0)) (blkOk_by (own := [("name", 1), ("count", 2)]) (N := N_sum_of) (sc := defScope s_sum_of) (by decide +kernel)) (fun _ _ _ _ _ => (k_gtup K rfl (pgs_cons (pg_name (i := 1) nd rfl (Or.inl rfl)) (pgs_cons (pg_name (i := 2) nd rfl (Or.inl rfl)) pgs_nil)))) (fun _ _ _ _ _ => pts_nil) (fun _ _ _ _ _ => (pv 2))) pa_nil)))), ?_⟩
    try dsimp only [cxOf]
    obtain ⟨a, xs, rfl, hs, hx, hl⟩ := bag_inv hd
    tm_at "wp"
    refine w_onT hs ?_
    intro D0 hD
    refine lc_map walk_tup (n := xs.length) (by omega) (fun i y => ∃ p, ps[i]? = some p ∧ y = .int p.2) hD (fun _ s => sqt_same s hs) ?_ ?_ mono_gpair
    · rintro i y H1 H2 hi s ⟨rfl, hy⟩ Qy hq
      obtain ⟨p, b, e1, rfl, hb⟩ := bag_get hx hy
      refine w_gtup (sqt_same s hb) rfl ?_
      tm_at "wp"
      refine ⟨rfl, ?_⟩
      tm_at "wp"
      exact hq _ _ (Same.refl _) ⟨p, e1, rfl⟩
    · intro acc H1 s _ hacc hl2 hf
      have e : acc = (ps.map (·.2)).map V.int := by
        rw [List.map_map]
        exact acc_map (by omega) hf
      rw [e] at hacc
      refine w_sum (SqL.of hacc) ?_
      exact k _ s
theorem ok_table_of {P : Program} {w : World} {K : PySem.W.Frag} {mg : Str → Option Value} {base : Heap} (fr : Fre mg) (D : Dfd K mg "table_of" s_table_of) : Has P w K mg base CX0 1 "table_of" s_table_of ["pairs"] (sp_table_of K) := by
  refine D.has sc_table_of (fun vs H Q E h => ?_) (fun cdv A outer s H vs Q E hr hg h => ?_)
  · obtain ⟨v, ps, rfl, _⟩ := h; rfl
  · obtain ⟨v, ps, rfl, hd, hn, k⟩ := h
    have nd := sc_table_of.nd
    refine ⟨_, PSs.nox (pss_cons (ps_set (i := 1) nd rfl (Or.inl rfl) pe_dnewK)
      (pss_cons (ps_for PassesOwn.never rfl (k_iTup K (pv 0)) (k_gtup K rfl (pgs_cons (pg_name (i := 2) nd rfl (Or.inl rfl)) (pgs_cons (pg_name (i := 3) nd rfl (Or.inl rfl)) pgs_nil)))
        (pss_one (ps_dput (hu_of hr) (pv 1) (pv 2) (pe_op op_add (pe_dget2 (hu_of hr) (pv 1) (pv 2) pe_int ⟨rfl, rfl, rfl, rfl⟩) (pv 3)) rfl)))
      (pss_one (ps_ret (pv 1))))), ?_⟩
    try dsimp only [cxOf]
    obtain ⟨a, xs, rfl, hs, hx, hl⟩ := bag_inv hd
    tm_at "wp"
    rename_i d hd0
    refine w_onT (sqt_same (same_new hd0) hs) ?_
    refine for_go (walk_tup (xs := xs)) (fun i σ H' => ∃ u w, σ = [some (.ref a), some (.ref d), u, w] ∧ Same H H' ∧ H' d = some (.dK (kvOf (tabOf (ps.take i))))) ⟨none, none, rfl, same_new hd0, upd_same⟩ (fun i σ H' _ ⟨_, _, _, s, _⟩ => sqt_same s hs) ?_ ?_
    · rintro i v σ H1 H2 hi ⟨u, w, rfl, s1, hd1⟩ ⟨rfl, hy⟩
      obtain ⟨p, b, e1, rfl, hb⟩ := bag_get hx hy
      have hlen : (tabOf (ps.take i)).length ≤ 100000 := by have := tabOf_len (ps.take i); rw [List.length_take] at this; omega
      refine w_gtup (sqt_same s1 hb) rfl ?_
      tm_at "wp"
      refine w_isD hd1 ?_
      tm_at "wp"
      refine w_dgetk hd1 ?_
      rw [kv_get]
      tm_at "wp"
      refine w_dputk hd1 (by rw [kv_len]; exact Nat.lt_of_le_of_lt hlen (by decide)) ?_
      tm_at "wp"
      refine ⟨_, _, rfl, same_mut s1 hd0, ?_⟩
      rw [kv_put, upd_same, take_succ_snoc e1, tabOf_snoc]
      rfl
    · rintro σ H1 ⟨u, w, rfl, s1, hd1⟩
      tm_at "wp"
      refine k d _ hd0 s1 ?_
      rw [hd1, List.take_of_length_le (by omega)]
theorem ok_Summary___init__ {P : Program} {w : World} {K : PySem.W.Frag} {mg : Str → Option Value} {base : Heap} (fr : Fre mg) (cl_Summary : ClsF K mg "Summary" ["capacity", "counts", "__bool__"]) (et_Summary___init___0 : ∀ H : Hp, SqT K H (dflA "Summary" "__init__" 0 K) []) (D : DfdM K "Summary" "__init__" "Summary.__init__" s_Summary___init__ [.ref (dflA "Summary" "__init__" 0 K)])
    (h_check_capacity : Has P w K mg base CX0 4 "check_capacity" s_check_capacity ["thing"] (sp_check_capacity K))
    (h_first_invalid : Has P w K mg base CX0 4 "first_invalid" s_first_invalid ["thing", "most"] (sp_first_invalid K)) : HasM P w K mg base CX0 5 "Summary" "__init__" "Summary.__init__" s_Summary___init__ [.ref (dflA "Summary" "__init__" 0 K)] ["self", "capacity", "counts"] (sp_Summary___init__ K) := by
  refine D.has sc_Summary___init__ (fun vs H Q E h => ?_) (fun cdv A outer s H vs Q E hr hg h => ?_)
  · obtain ⟨x, dx, c, ps, b, rfl, _⟩ := h; rfl
  · obtain ⟨x, dx, c, ps, b, rfl, hx, hd, hv, k⟩ := h
    have nd := sc_Summary___init__.nd
    refine ⟨_, PSs.nox (pss_cons (ps_expr (pe_fn h_check_capacity pb_check_capacity (hr.mono (by decide)) hg rfl pass0 (pa_cons (pv 1) pa_nil)))
      (pss_cons (ps_if (pt_not (pt_val (pe_callB (k_isi K) rfl fr.isinstance_ (by decide +kernel) (pa_cons (pv 2) (pa_cons (pe_bltn (v := .ty "tuple") rfl fr.tuple_ boot_tuple rfl) pa_nil))))) (pss_one ps_never) pss_nil)
      (pss_cons (ps_set (i := 3) nd rfl (Or.inl rfl) (pe_fn h_first_invalid pb_first_invalid (hr.mono (by decide)) hg rfl pass0 (pa_cons (pv 2) (pa_cons (pv 1) pa_nil))))
      (pss_cons (ps_if (pt_cmpR o_notN (pv 3) pe_non (nomark _)) (pss_one ps_never) pss_nil)
      (pss_cons (k_sfld K (pv 0) (pv 1) rfl)
      (pss_one (k_sfld K (pv 0) (pv 2) rfl))))))), ?_⟩
    try dsimp only [cxOf]
    tm_at "wp"
    refine ⟨c, rfl, hv.c1, hv.c8, ?_⟩
    tm_at "wp"
    refine w_isiD hd (isi_tup _) ?_
    refine w_bl ?_
    refine w_nott ?_
    tm_at "wp"
    refine ⟨b, ps.map pairD, c, rfl, hd, hv.ok.sz, fun H1 s1 => ?_⟩
    rw [show optV (firstBad (ps.map pairD) c) = .non by rw [bag_good hv.ok hv.len]; rfl]
    tm_at "wp"
    refine w_setc cl_Summary (by decide) (s1 _ _ hx) (by decide) ?_
    tm_at "wp"
    refine w_setc cl_Summary (by decide) upd_same (show (1 : Nat) < 1000 by decide) ?_
    tm_at "wp"
    refine k _ (fun z o ne e => ?_) upd_same
    rw [upd_ne ne, upd_ne ne]
    exact s1 z o e
theorem ok_Summary_tally {P : Program} {w : World} {K : PySem.W.Frag} {mg : Str → Option Value} {base : Heap} (fr : Fre mg) (cl_Summary : ClsF K mg "Summary" ["capacity", "counts", "__bool__"]) (et_Summary___init___0 : ∀ H : Hp, SqT K H (dflA "Summary" "__init__" 0 K) []) (D : DfdM K "Summary" "tally" "Summary.tally" s_Summary_tally [])
    (h_check_name : Has P w K mg base CX0 2 "check_name" s_check_name ["thing"] (sp_check_name K))
    (h_table_of : Has P w K mg base CX0 1 "table_of" s_table_of ["pairs"] (sp_table_of K)) : HasM P w K mg base CX0 3 "Summary" "tally" "Summary.tally" s_Summary_tally [] ["self", "name"] (sp_Summary_tally K) := by
  refine D.has sc_Summary_tally (fun vs H Q E h => ?_) (fun cdv A outer s H vs Q E hr hg h => ?_)
  · obtain ⟨v, c, ps, n, rfl, _⟩ := h; rfl
  · obtain ⟨v, c, ps, n, rfl, ho, hv, hnm, k⟩ := h
    have nd := sc_Summary_tally.nd
    refine ⟨_, PSs.nox (pss_cons (ps_expr (pe_fn h_check_name pb_check_name (hr.mono (by decide)) hg rfl pass0 (pa_cons (pv 1) pa_nil)))
      (pss_one (ps_ret (pe_dget2 (hu_of hr) (pe_fn h_table_of pb_table_of (hr.mono (by decide)) hg rfl pass0 (pa_cons (k_fld K (pv 0) rfl) pa_nil)) (pv 1) pe_int ⟨rfl, rfl, rfl, rfl⟩)))), ?_⟩
    try dsimp only [cxOf]
    have hlen := hv.len
    have h8 := hv.c8
    tm_at "wp"
    refine ⟨n, rfl, hnm, fun H2 s2 => ?_⟩
    tm_at "wp"
    refine w_sumCnt cl_Summary (sum_same s2 ho) fun b hb => ?_
    tm_at "wp"
    refine ⟨b, ps, rfl, hb, by omega, fun a H3 ha s3 hd3 => ?_⟩
    rw [tabOf_self hv.ok.tab.nd] at hd3
    refine w_isD hd3 ?_
    tm_at "wp"
    refine w_dgetk hd3 ?_
    rw [kv_get]
    exact k _ (s2.trans s3)
theorem ok_is_summary {P : Program} {w : World} {K : PySem.W.Frag} {mg : Str → Option Value} {base : Heap} (fr : Fre mg) (cl_Summary : ClsF K mg "Summary" ["capacity", "counts", "__bool__"]) (et_Summary___init___0 : ∀ H : Hp, SqT K H (dflA "Summary" "__init__" 0 K) []) (D : Dfd K mg "is_summary" s_is_summary) : Has P w K mg base CX0 1 "is_summary" s_is_summary ["thing"] (sp_is_summary K) := by
  refine D.has sc_is_summary (fun vs H Q E h => ?_) (fun cdv A outer s H vs Q E hr hg h => ?_)
  · obtain ⟨v, b, rfl, _⟩ := h; rfl
  · obtain ⟨v, b, rfl, hb, k⟩ := h
    have nd := sc_is_summary.nd
    refine ⟨_, PSs.nox (pss_one (ps_ret (pe_callB (k_isi K) rfl fr.isinstance_ (by decide +kernel) (pa_cons (pv 0) (pa_cons (pe_glob (v := .ref (He.ga K "Summary")) rfl cl_Summary.glo rfl) pa_nil))))), ?_⟩
    try dsimp only [cxOf]
    tm_at "wp"
    rcases hb with ⟨rfl, c, ps, ho⟩ | ⟨rfl, d, hd⟩
    · exact w_isSum cl_Summary ho k
    · exact w_isiF cl_Summary hd k
theorem ok_check_summary {P : Program} {w : World} {K : PySem.W.Frag} {mg : Str → Option Value} {base : Heap} (fr : Fre mg) (D : Dfd K mg "check_summary" s_check_summary)
    (h_is_summary : Has P w K mg base CX0 1 "is_summary" s_is_summary ["thing"] (sp_is_summary K)) : Has P w K mg base CX0 2 "check_summary" s_check_summary ["thing"] (sp_check_summary K) := by
  refine D.has sc_check_summary (fun vs H Q E h => ?_) (fun cdv A outer s H vs Q E hr hg h => ?_)
  · obtain ⟨v, c, ps, rfl, _⟩ := h; rfl
  · obtain ⟨v, c, ps, rfl, ho, k⟩ := h
    have nd := sc_check_summary.nd
    refine ⟨_, PSs.nox (pss_one (ps_if (pt_not (pt_val (pe_fn h_is_summary pb_is_summary (hr.mono (by decide)) hg rfl pass0 (pa_cons (pv 0) pa_nil)))) (pss_one ps_never) pss_nil)), ?_⟩
    try dsimp only [cxOf]
    tm_at "wp"
    refine ⟨v, true, rfl, .inl ⟨rfl, c, ps, ho⟩, ?_⟩
    refine w_bl ?_
    refine w_nott ?_
    tm_at "wp"
    exact k
theorem ok_check_size {P : Program} {w : World} {K : PySem.W.Frag} {mg : Str → Option Value} {base : Heap} (fr : Fre mg) (cl_Summary : ClsF K mg "Summary" ["capacity", "counts", "__bool__"]) (et_Summary___init___0 : ∀ H : Hp, SqT K H (dflA "Summary" "__init__" 0 K) []) (D : Dfd K mg "check_size" s_check_size)
    (h_check_summary : Has P w K mg base CX0 2 "check_summary" s_check_summary ["thing"] (sp_check_summary K))
    (h_sum_of : Has P w K mg base CX0 1 "sum_of" s_sum_of ["pairs"] (sp_sum_of K))
    (h_is_from : Has P w K mg base CX0 2 "is_from" s_is_from ["thing", "least"] (sp_is_from K)) : Has P w K mg base CX0 3 "check_size" s_check_size ["summary", "size"] (sp_check_size K) := by
  refine D.has sc_check_size (fun vs H Q E h => ?_) (fun cdv A outer s H vs Q E hr hg h => ?_)
  · obtain ⟨v, c, ps, N, d, rfl, _⟩ := h; rfl
  · obtain ⟨v, c, ps, N, d, rfl, ho, hv, hN, hd, k⟩ := h
    have nd := sc_check_size.nd
    refine ⟨_, PSs.nox (pss_cons (ps_expr (pe_fn h_check_summary pb_check_summary (hr.mono (by decide)) hg rfl pass0 (pa_cons (pv 0) pa_nil)))
      (pss_one (ps_if (PW.pt (pw_or (pt_not (pt_val (pe_fn h_is_from pb_is_from (hr.mono (by decide)) hg rfl pass0 (pa_cons (pv 1) (pa_cons (pe_fn h_sum_of pb_sum_of (hr.mono (by decide)) hg rfl pass0 (pa_cons (k_fld K (pv 0) rfl) pa_nil)) pa_nil))))) (pw_or1 (pt_cmpR op_ne (pe_op op_mod (pe_op op_sub (pv 1) (pe_fn h_sum_of pb_sum_of (hr.mono (by decide)) hg rfl pass0 (pa_cons (k_fld K (pv 0) rfl) pa_nil))) (pe_op op_add (k_fld K (pv 0) rfl) pe_int)) pe_int (nomark _))))) (pss_one ps_never) pss_nil))), ?_⟩
    try dsimp only [cxOf]
    have hlen := hv.len
    have h8 := hv.c8
    have h1 := hv.c1
    have hm : 0 ≤ d * (c + 1) := Int.mul_nonneg hd (by omega)
    tm_at "wp"
    refine ⟨v, c, ps, rfl, ho, ?_⟩
    tm_at "wp"
    refine w_sumCnt cl_Summary ho fun b hb => ?_
    tm_at "wp"
    refine ⟨b, ps, rfl, hb, by omega, fun H1 s1 => ?_⟩
    tm_at "wp"
    refine ⟨.int N, .int N, sumC ps, rfl, .int N, ?_⟩
    have e : fromD (.int N) (sumC ps) = true := by show decide (sumC ps ≤ N) = true; exact decide_eq_true (by omega)
    rw [e]
    refine w_bl ?_
    refine w_nott ?_
    have ho1 := sum_same s1 ho
    tm_at "wp"
    refine w_sumCnt cl_Summary ho1 fun b1 hb1 => ?_
    tm_at "wp"
    refine ⟨b1, ps, rfl, hb1, by omega, fun H2 s2 => ?_⟩
    tm_at "wp"
    refine w_sumCap cl_Summary (sum_same s2 ho1) ?_
    tm_at "wp"
    have em : (N - sumC ps) % (c + 1) = 0 := by
      rw [hN, show sumC ps + d * (c + 1) - sumC ps = d * (c + 1) by omega]
      exact mul_emod d (c + 1)
    rw [em]
    refine w_iten (fun h => absurd rfl h) (fun _ => ?_)
    tm_at "wp"
    exact k _ (s1.trans s2)
theorem ok_reduction_count {P : Program} {w : World} {K : PySem.W.Frag} {mg : Str → Option Value} {base : Heap} (fr : Fre mg) (cl_Summary : ClsF K mg "Summary" ["capacity", "counts", "__bool__"]) (et_Summary___init___0 : ∀ H : Hp, SqT K H (dflA "Summary" "__init__" 0 K) []) (D : Dfd K mg "reduction_count" s_reduction_count)
    (h_check_size : Has P w K mg base CX0 3 "check_size" s_check_size ["summary", "size"] (sp_check_size K))
    (h_sum_of : Has P w K mg base CX0 1 "sum_of" s_sum_of ["pairs"] (sp_sum_of K)) : Has P w K mg base CX0 4 "reduction_count" s_reduction_count ["summary", "size"] (sp_reduction_count K) := by
  refine D.has sc_reduction_count (fun vs H Q E h => ?_) (fun cdv A outer s H vs Q E hr hg h => ?_)
  · obtain ⟨v, c, ps, N, d, rfl, _⟩ := h; rfl
  · obtain ⟨v, c, ps, N, d, rfl, ho, hv, hN, hd, k⟩ := h
    have nd := sc_reduction_count.nd
    refine ⟨_, PSs.nox (pss_cons (ps_expr (pe_fn h_check_size pb_check_size (hr.mono (by decide)) hg rfl pass0 (pa_cons (pv 0) (pa_cons (pv 1) pa_nil))))
      (pss_one (ps_ret (pe_op op_fdiv (pe_op op_sub (pv 1) (pe_fn h_sum_of pb_sum_of (hr.mono (by decide)) hg rfl pass0 (pa_cons (k_fld K (pv 0) rfl) pa_nil))) (pe_op op_add (k_fld K (pv 0) rfl) pe_int))))), ?_⟩
    try dsimp only [cxOf]
    have hlen := hv.len
    have h8 := hv.c8
    have h1 := hv.c1
    tm_at "wp"
    refine ⟨v, c, ps, N, d, rfl, ho, hv, hN, hd, fun H1 s1 => ?_⟩
    have ho1 := sum_same s1 ho
    tm_at "wp"
    refine w_sumCnt cl_Summary ho1 fun b1 hb1 => ?_
    tm_at "wp"
    refine ⟨b1, ps, rfl, hb1, by omega, fun H2 s2 => ?_⟩
    tm_at "wp"
    refine w_sumCap cl_Summary (sum_same s2 ho1) ?_
    tm_at "wp"
    have em : (N - sumC ps) / (c + 1) = d := by
      rw [hN, show sumC ps + d * (c + 1) - sumC ps = d * (c + 1) by omega]
      exact mul_ediv d (c + 1) (by omega)
    rw [em]
    exact k _ (s1.trans s2)
theorem ok_fits {P : Program} {w : World} {K : PySem.W.Frag} {mg : Str → Option Value} {base : Heap} (fr : Fre mg) (cl_Summary : ClsF K mg "Summary" ["capacity", "counts", "__bool__"]) (et_Summary___init___0 : ∀ H : Hp, SqT K H (dflA "Summary" "__init__" 0 K) []) (D : Dfd K mg "fits" s_fits)
    (h_reduction_count : Has P w K mg base CX0 4 "reduction_count" s_reduction_count ["summary", "size"] (sp_reduction_count K))
    (h_check_counts : Has P w K mg base CX0 5 "check_counts" s_check_counts ["thing"] (sp_check_counts K))
    (h_table_of : Has P w K mg base CX0 1 "table_of" s_table_of ["pairs"] (sp_table_of K))
    (h_sum_of : Has P w K mg base CX0 1 "sum_of" s_sum_of ["pairs"] (sp_sum_of K)) : Has P w K mg base CX0 6 "fits" s_fits ["summary", "size", "counts"] (sp_fits K) := by
  refine D.has sc_fits (fun vs H Q E h => ?_) (fun cdv A outer s H vs Q E hr hg h => ?_)
  · obtain ⟨v, c, ps, N, d, w, qs, rfl, _⟩ := h; rfl
  · obtain ⟨v, c, ps, N, d, w, qs, rfl, ho, hv, hN, hd, hw, hq, hl, k⟩ := h
    have nd := sc_fits.nd
    refine ⟨_, PSs.nox (pss_cons (ps_set (i := 3) nd rfl (Or.inr rfl) (pe_fn h_reduction_count pb_reduction_count (hr.mono (by decide)) hg rfl pass0 (pa_cons (pv 0) (pa_cons (pv 1) pa_nil))))
      (pss_cons (ps_expr (pe_fn h_check_counts pb_check_counts (hr.mono (by decide)) hg rfl pass0 (pa_cons (pv 2) pa_nil)))
      (pss_cons (ps_asg (pe_tup (pa_cons (pe_fn h_table_of pb_table_of (hr.mono (by decide)) hg rfl pass0 (pa_cons (pv 2) pa_nil)) (pa_cons (pe_fn h_table_of pb_table_of (hr.mono (by decide)) hg rfl pass0 (pa_cons (k_fld K (pv 0) rfl) pa_nil)) pa_nil))) (k_gtup K rfl (pgs_cons (pg_name (i := 4) nd rfl (Or.inr rfl)) (pgs_cons (pg_name (i := 5) nd rfl (Or.inr rfl)) pgs_nil))))
      (pss_cons (ps_setLc (i := 6) (own := [("name", 7)]) (g := gName 7) (tt := tYes) rfl nd rfl rfl (sw_true rfl rfl rfl (by decide +kernel)) (k_iList K (pe_callB (c_sortedDk rfl) rfl fr.sorted_ (by decide +kernel) (pa_cons (pe_dmrg (pv 4) (pv 5)) pa_nil))) (blkOk_by (own := [("name", 7)]) (N := N_fits) (sc := defScope s_fits) (by decide +kernel)) (fun _ _ _ _ _ => (pg_name (i := 7) nd rfl (Or.inl rfl))) (fun _ _ _ _ _ => pts_nil) (fun _ _ _ _ _ => (pe_op op_sub (pe_dget2 (hu_of hr) (pv 4) (pv 7) pe_int ⟨rfl, rfl, rfl, rfl⟩) (pe_dget2 (hu_of hr) (pv 5) (pv 7) pe_int ⟨rfl, rfl, rfl, rfl⟩))))
      (pss_one (ps_ret (pe_and (pe_cmpR op_eq (pe_fn h_sum_of pb_sum_of (hr.mono (by decide)) hg rfl pass0 (pa_cons (pv 2) pa_nil)) (pv 1) (nomark _)) (pe_one (pe_callB (k_all K rfl) rfl fr.all_ (by decide +kernel) (pa_cons (pe_lc (own := [("each", 8)]) (g := gName 8) (tt := tYes) rfl nd (k_iList K (pv 6)) (blkOk_by (own := [("each", 8)]) (N := N_fits) (sc := defScope s_fits) (by decide +kernel)) (fun _ _ _ _ _ => (pg_name (i := 8) nd rfl (Or.inl rfl))) (fun _ _ _ _ _ => pts_nil) (fun _ _ _ _ _ => (pe_chain op_le op_le pe_int (pv 8) (pv 3)))) pa_nil)))))))))), ?_⟩
    try dsimp only [cxOf]
    have hlen := hv.len
    have h8 := hv.c8
    tm_at "wp"
    refine ⟨v, c, ps, N, d, rfl, ho, hv, hN, hd, fun H1 s1 => ?_⟩
    tm_at "wp"
    refine ⟨w, qs.map pairD, rfl, dp_same s1 hw, hq.sz, bag_good hq (by omega), fun H2 s2 => ?_⟩
    tm_at "wp"
    refine ⟨w, qs, rfl, by tm_at "dp", by omega, fun t1 H3 ht1 s3 hT1 => ?_⟩
    rw [tabOf_self hq.tab.nd] at hT1
    tm_at "wp"
    refine w_sumCnt (c := c) (ps := ps) cl_Summary (by tm_at "sumo") fun b1 hb1 => ?_
    tm_at "wp"
    refine ⟨b1, ps, rfl, hb1, by omega, fun t2 H4 ht2 s4 hT2 => ?_⟩
    rw [tabOf_self hv.ok.tab.nd] at hT2
    tm_at "wp"
    rename_i tp htp
    refine w_gtup (SqT.of upd_same) rfl ?_
    tm_at "wp"
    refine w_dmrg (s := qs) (t := ps) rfl rfl (by tm_at "heap") (by tm_at "heap") hq.tab.nd (by omega) (by omega) ?_
    intro m hm
    refine w_sortedDk upd_same (Nat.lt_of_le_of_lt (mrgT_len qs ps) (by omega)) ?_
    intro ys q hperm hsorted hqn
    have hmem : ∀ y, y ∈ ys ↔ y ∈ keys qs ∨ y ∈ keys ps := fun y => by rw [hperm.mem_iff]; exact mrgT_mem
    have hyl : ys.length ≤ 24 := by have := mrgT_len qs ps; rw [hperm.length_eq, List.length_map]; omega
    refine w_onL (SqL.of upd_same) ?_
    intro D hD
    refine lc_map (walk_list (xs := ys.map V.str)) (by rw [List.length_map]; omega) (fun i y => ∃ x, ys[i]? = some x ∧ y = .int (getT qs x - getT ps x)) hD (fun _ s => s.seq (SqL.of upd_same)) ?_ ?_ mono_gname
    · rintro i y G1 G2 hi s ⟨rfl, hy⟩ Qy hq1
      rw [List.length_map] at hi
      have ey : y = .str ys[i] := by rw [List.getElem?_map, List.getElem?_eq_getElem hi] at hy; exact (Option.some.inj hy).symm
      subst ey
      have g1 : G2 t1 = some (.dK (kvOf qs)) := by tm_at "heap"
      have g2 : G2 t2 = some (.dK (kvOf ps)) := by tm_at "heap"
      refine w_gname ⟨rfl, ?_⟩
      tm_at "wp"
      refine w_isD g1 ?_
      tm_at "wp"
      refine w_dgetk g1 ?_
      rw [kv_get]
      tm_at "wp"
      refine w_isD g2 ?_
      tm_at "wp"
      refine w_dgetk g2 ?_
      rw [kv_get]
      tm_at "wp"
      exact hq1 _ _ (Same.refl _) ⟨_, List.getElem?_eq_getElem hi, rfl⟩
    intro acc H5 s5 _ hacc hal hf
    rw [List.length_map] at hal
    have eacc : acc = (ys.map fun x => getT qs x - getT ps x).map V.int := by rw [List.map_map]; exact acc_map hal hf
    rw [eacc] at hacc
    tm_at "wp"
    refine ⟨w, qs, rfl, by tm_at "dp", by omega, fun H6 s6 => ?_⟩
    have s06 : Same H H6 := by tm_at "same"
    have hacc6 := s6 _ _ hacc
    tm_at "wp"
    refine w_ited (fun he => ?_) (fun he => ?_)
    · tm_at "wp"
      refine w_onL (SqL.of hacc6) ?_
      intro D2 hD2
      refine lc_map (walk_list (xs := (ys.map fun x => getT qs x - getT ps x).map V.int)) (by rw [List.length_map, List.length_map]; omega) (fun i y => ∃ x, ys[i]? = some x ∧ y = .bl (decide (0 ≤ getT qs x - getT ps x) && decide (getT qs x - getT ps x ≤ d))) hD2 (fun _ s => s.seq (SqL.of hacc6)) ?_ ?_ mono_gname
      · rintro i y G1 G2 hi s ⟨rfl, hy⟩ Qy hq1
        rw [List.length_map, List.length_map] at hi
        have ey : y = .int (getT qs ys[i] - getT ps ys[i]) := by rw [List.getElem?_map, List.getElem?_map, List.getElem?_eq_getElem hi] at hy; exact (Option.some.inj hy).symm
        subst ey
        refine w_gname ⟨rfl, ?_⟩
        tm_at "wp"
        refine w_ited (fun h1 => ?_) (fun h1 => ?_)
        · tm_at "wp"
          exact hq1 _ _ (Same.refl _) ⟨_, List.getElem?_eq_getElem hi, by rw [decide_eq_true h1]; rfl⟩
        · exact hq1 _ _ (Same.refl _) ⟨_, List.getElem?_eq_getElem hi, by rw [decide_eq_false h1]; rfl⟩
      intro acc2 H7 s7 _ hacc7 hal7 hf7
      rw [List.length_map, List.length_map] at hal7
      have eacc7 : acc2 = (ys.map fun x => decide (0 ≤ getT qs x - getT ps x) && decide (getT qs x - getT ps x ≤ d)).map V.bl := by rw [List.map_map]; exact acc_map hal7 hf7
      rw [eacc7] at hacc7
      tm_at "wp"
      refine w_all (SqL.of hacc7) ?_
      refine k _ _ (s06.trans s7) ?_
      rw [all_map_id, List.all_eq_true]
      exact fit_iff he hd hmem
    · refine k _ _ s06 ⟨nofun, fun z => absurd z.1 he⟩
theorem ok_true_range {P : Program} {w : World} {K : PySem.W.Frag} {mg : Str → Option Value} {base : Heap} (fr : Fre mg) (cl_Summary : ClsF K mg "Summary" ["capacity", "counts", "__bool__"]) (et_Summary___init___0 : ∀ H : Hp, SqT K H (dflA "Summary" "__init__" 0 K) []) (D : Dfd K mg "true_range" s_true_range)
    (h_reduction_count : Has P w K mg base CX0 4 "reduction_count" s_reduction_count ["summary", "size"] (sp_reduction_count K))
    (h_Summary_tally : HasM P w K mg base CX0 3 "Summary" "tally" "Summary.tally" s_Summary_tally [] ["self", "name"] (sp_Summary_tally K)) : Has P w K mg base CX0 5 "true_range" s_true_range ["summary", "size", "name"] (sp_true_range K) := by
  refine D.has sc_true_range (fun vs H Q E h => ?_) (fun cdv A outer s H vs Q E hr hg h => ?_)
  · obtain ⟨v, c, ps, N, d, x, rfl, _⟩ := h; rfl
  · obtain ⟨v, c, ps, N, d, x, rfl, ho, hv, hN, hd, hx, k⟩ := h
    have nd := sc_true_range.nd
    refine ⟨_, PSs.nox (pss_cons (ps_set (i := 3) nd rfl (Or.inl rfl) (pe_fn h_reduction_count pb_reduction_count (hr.mono (by decide)) hg rfl pass0 (pa_cons (pv 0) (pa_cons (pv 1) pa_nil))))
      (pss_cons (ps_set (i := 4) nd rfl (Or.inl rfl) (pe_mt cl_Summary h_Summary_tally bj_Summary_tally_2 (hr.mono (by decide)) hg pass0 (pv 0) (pa_cons (pv 2) pa_nil)))
      (pss_one (ps_ret (pe_tup (pa_cons (pv 4) (pa_cons (pe_op op_add (pv 4) (pv 3)) pa_nil))))))), ?_⟩
    try dsimp only [cxOf]
    tm_at "wp"
    refine ⟨v, c, ps, N, d, rfl, ho, hv, hN, hd, fun H1 s1 => ?_⟩
    have ho1 := sum_same s1 ho
    tm_at "wp"
    refine w_sumMt ho1 (by decide) ?_
    tm_at "wp"
    refine ⟨v, c, ps, x, rfl, ho1, hv, hx, fun H2 s2 => ?_⟩
    tm_at "wp"
    rename_i T hT
    exact k _ _ (by tm_at "same") (.tup (SqT.of upd_same) (.cons (.int _) (.cons (.int _) .nil)))
theorem ok_surely_more {P : Program} {w : World} {K : PySem.W.Frag} {mg : Str → Option Value} {base : Heap} (fr : Fre mg) (cl_Summary : ClsF K mg "Summary" ["capacity", "counts", "__bool__"]) (et_Summary___init___0 : ∀ H : Hp, SqT K H (dflA "Summary" "__init__" 0 K) []) (D : Dfd K mg "surely_more" s_surely_more)
    (h_reduction_count : Has P w K mg base CX0 4 "reduction_count" s_reduction_count ["summary", "size"] (sp_reduction_count K))
    (h_Summary_tally : HasM P w K mg base CX0 3 "Summary" "tally" "Summary.tally" s_Summary_tally [] ["self", "name"] (sp_Summary_tally K)) : Has P w K mg base CX0 5 "surely_more" s_surely_more ["summary", "size", "one", "other"] (sp_surely_more K) := by
  refine D.has sc_surely_more (fun vs H Q E h => ?_) (fun cdv A outer s H vs Q E hr hg h => ?_)
  · obtain ⟨v, c, ps, N, d, x, y, rfl, _⟩ := h; rfl
  · obtain ⟨v, c, ps, N, d, x, y, rfl, ho, hv, hN, hd, hx, hy, k⟩ := h
    have nd := sc_surely_more.nd
    refine ⟨_, PSs.nox (pss_cons (ps_set (i := 4) nd rfl (Or.inl rfl) (pe_fn h_reduction_count pb_reduction_count (hr.mono (by decide)) hg rfl pass0 (pa_cons (pv 0) (pa_cons (pv 1) pa_nil))))
      (pss_cons (ps_par (i := 5) (j := 6) rfl nd rfl rfl (by decide) rfl rfl (pa_cons (pe_mt cl_Summary h_Summary_tally bj_Summary_tally_2 (hr.mono (by decide)) hg pass0 (pv 0) (pa_cons (pv 2) pa_nil)) (pa_cons (pe_mt cl_Summary h_Summary_tally bj_Summary_tally_2 (hr.mono (by decide)) hg pass0 (pv 0) (pa_cons (pv 3) pa_nil)) pa_nil)) rfl)
      (pss_one (ps_ret (pe_and (pe_cmpR op_ne (pv 2) (pv 3) (nomark _)) (pe_one (pe_cmpR op_gt (pv 5) (pe_op op_add (pv 6) (pv 4)) (nomark _)))))))), ?_⟩
    try dsimp only [cxOf]
    tm_at "wp"
    refine ⟨v, c, ps, N, d, rfl, ho, hv, hN, hd, fun H1 s1 => ?_⟩
    have ho1 := sum_same s1 ho
    tm_at "wp"
    refine w_sumMt ho1 (by decide) ?_
    tm_at "wp"
    refine ⟨v, c, ps, x, rfl, ho1, hv, hx, fun H2 s2 => ?_⟩
    have ho2 := sum_same s2 ho1
    tm_at "wp"
    refine w_sumMt ho2 (by decide) ?_
    tm_at "wp"
    refine ⟨v, c, ps, y, rfl, ho2, hv, hy, fun H3 s3 => ?_⟩
    have s03 := (s1.trans s2).trans s3
    tm_at "wp"
    refine w_iten (fun h => ?_) (fun h => ?_)
    · tm_at "wp"
      have e : (!decide (x = y) && decide (getT ps y + d < getT ps x)) = decide (getT ps x > getT ps y + d) := by rw [decide_eq_false h]; rfl
      rw [← e]
      exact k _ s03
    · have e : (!decide (x = y) && decide (getT ps y + d < getT ps x)) = false := by rw [decide_eq_true h]; rfl
      have := k _ s03
      rw [e] at this
      exact this
theorem ok_most_ahead {P : Program} {w : World} {K : PySem.W.Frag} {mg : Str → Option Value} {base : Heap} (fr : Fre mg) (cl_Summary : ClsF K mg "Summary" ["capacity", "counts", "__bool__"]) (et_Summary___init___0 : ∀ H : Hp, SqT K H (dflA "Summary" "__init__" 0 K) []) (D : Dfd K mg "most_ahead" s_most_ahead)
    (h_reduction_count : Has P w K mg base CX0 4 "reduction_count" s_reduction_count ["summary", "size"] (sp_reduction_count K))
    (h_Summary_tally : HasM P w K mg base CX0 3 "Summary" "tally" "Summary.tally" s_Summary_tally [] ["self", "name"] (sp_Summary_tally K)) : Has P w K mg base CX0 5 "most_ahead" s_most_ahead ["summary", "size", "name"] (sp_most_ahead K) := by
  refine D.has sc_most_ahead (fun vs H Q E h => ?_) (fun cdv A outer s H vs Q E hr hg h => ?_)
  · obtain ⟨v, c, ps, N, d, x, rfl, _⟩ := h; rfl
  · obtain ⟨v, c, ps, N, d, x, rfl, ho, hv, hN, hd, hx, hsum, k⟩ := h
    have nd := sc_most_ahead.nd
    refine ⟨_, PSs.nox (pss_cons (ps_set (i := 3) nd rfl (Or.inl rfl) (pe_fn h_reduction_count pb_reduction_count (hr.mono (by decide)) hg rfl pass0 (pa_cons (pv 0) (pa_cons (pv 1) pa_nil))))
      (pss_cons (ps_set (i := 4) nd rfl (Or.inr rfl) (pe_op op_add (pe_mt cl_Summary h_Summary_tally bj_Summary_tally_2 (hr.mono (by decide)) hg pass0 (pv 0) (pa_cons (pv 2) pa_nil)) pe_int))
      (pss_cons (ps_set (i := 5) nd rfl (Or.inl rfl) (pe_callB (k_sortedI K) rfl fr.sorted_ (by decide +kernel) (pa_cons (pe_lc (own := [("other", 6), ("count", 7)]) (g := gTup K 2 (gCons (gName 6) (gCons (gName 7) gNil))) rfl nd (k_iTup K (k_fld K (pv 0) rfl)) (blkOk_by (own := [("other", 6), ("count", 7)]) (N := N_most_ahead) (sc := defScope s_most_ahead) (by decide +kernel)) (fun _ _ _ _ _ => (k_gtup K rfl (pgs_cons (pg_name (i := 6) nd rfl (Or.inl rfl)) (pgs_cons (pg_name (i := 7) nd rfl (Or.inl rfl)) pgs_nil)))) (fun _ _ _ _ _ => (pts_one (pt_cmpR op_ne (pv 6) (pv 2) (nomark _)))) (fun _ _ _ _ _ => (pe_callB (c_max2 rfl) rfl fr.max_ (by decide +kernel) (pa_cons pe_int (pa_cons (pe_op op_sub (pv 4) (pv 7)) pa_nil))))) pa_nil)))
      (pss_cons (ps_par (i := 8) (j := 9) rfl nd rfl rfl (by decide) rfl rfl (pa_cons (pe_op op_mul (pv 3) (pe_op op_add (k_fld K (pv 0) rfl) pe_int)) (pa_cons pe_int pa_nil)) rfl)
      (pss_cons (ps_for PassesOwn.never rfl (k_iList K (pv 5)) (pg_name (i := 10) nd rfl (Or.inl rfl))
        (pss_one (ps_if (pt_cmpR op_le (pv 10) (pe_callB (c_min2 rfl) rfl fr.min_ (by decide +kernel) (pa_cons (pv 3) (pa_cons (pv 8) pa_nil))) (nomark _)) (pss_one (ps_par (i := 8) (j := 9) rfl nd rfl rfl (by decide) rfl rfl (pa_cons (pe_op op_sub (pv 8) (pv 10)) (pa_cons (pe_op op_add (pv 9) pe_int) pa_nil)) rfl)) pss_nil)))
      (pss_one (ps_ret (pe_ifExp (pt_cmpR op_le (pv 4) (pv 3) (nomark _)) (pe_op op_add (pv 9) (pe_op op_fdivW (pv 8) (pv 4))) (pv 9))))))))), ?_⟩
    try dsimp only [cxOf]
    have hlen := hv.len
    have h8 := hv.c8
    have h1 := hv.c1
    have gx0 := getT_le hv.ok.pos x
    tm_at "wp"
    refine ⟨v, c, ps, N, d, rfl, ho, hv, hN, hd, fun H1 s1 => ?_⟩
    have ho1 := sum_same s1 ho
    tm_at "wp"
    refine w_sumMt ho1 (by decide) ?_
    tm_at "wp"
    refine ⟨v, c, ps, x, rfl, ho1, hv, hx, fun H2 s2 => ?_⟩
    have ho2 := sum_same s2 ho1
    obtain ⟨g, eg⟩ : ∃ g, getT ps x + 1 = g := ⟨_, rfl⟩
    have hg : 1 ≤ g := by omega
    tm_at "wp"
    rw [eg]
    refine w_sumCnt cl_Summary ho2 fun b hb => ?_
    obtain ⟨a, xs, rfl, hs, hxx, hxl⟩ := bag_inv hb
    refine w_onT hs ?_
    intro D hD
    refine lc_fm (walk_tup (xs := xs)) ps (fun p => if p.1 = x then none else some (V.int (if g - p.2 > 0 then g - p.2 else 0))) hxl.symm (by omega) hD (fun _ s => sqt_same s hs) ?_ ?_
    · rintro i y p G1 G2 hi s ⟨rfl, hy⟩ Qy hq
      obtain ⟨p', bb, e1, rfl, hbb⟩ := bag_get hxx hy
      rw [hi] at e1
      cases (Option.some.inj e1)
      refine w_gtup (sqt_same s hbb) rfl ?_
      tm_at "wp"
      refine ⟨rfl, ?_⟩
      tm_at "wp"
      refine w_iten (fun h => ?_) (fun h => ?_)
      · tm_at "wp"
        rw [if_neg h] at hq
        exact hq _ (Same.refl _)
      · rw [if_pos h] at hq
        exact hq _ (Same.refl _)
    intro H3 s3 _ hacc
    rw [need_fm] at hacc
    have hnl := need_len g ps x
    have hnb := need_bnd (x := x) hv.ok.pos hg
    tm_at "wp"
    refine w_sortedI (SqL.of hacc) (by omega) ?_
    intro ns q hperm hsort hqn
    have hnsl : ns.length ≤ 8 := by rw [hperm.length_eq]; omega
    have hU : 0 ≤ d * (c + 1) := Int.mul_nonneg hd (by omega)
    have hgo := ahead_eq (d := d) (U := d * (c + 1)) hg hU hperm hsort hnb
    have eres : aheadL c d ps x = worth g d (d * (c + 1)) ((grd d (d * (c + 1), 0) ns).2, d * (c + 1) - (grd d (d * (c + 1), 0) ns).1) := by unfold aheadL; rw [eg]; exact hgo
    tm_at "wp"
    refine w_sumCap (c := c) (ps := ps) cl_Summary (by tm_at "sumo") ?_
    have s04 : Same H (upd H3 q (.lst (ns.map V.int))) := by tm_at "same"
    have hq4 : (upd H3 q (.lst (ns.map V.int))) q = some (.lst (ns.map V.int)) := upd_same
    generalize upd H3 q (.lst (ns.map V.int)) = H4 at s04 hq4
    clear s1 s2 s3
    tm_at "wp"
    generalize d * (c + 1) = U at eres hU
    refine w_onL (SqL.of hq4) ?_
    refine for_go (walk_list (xs := ns.map V.int)) (fun i σ H' => ∃ (u6 u7 u10 : Option V), σ = [some v, some (.int N), some (.str x), some (.int d), some (.int g), some (.ref q), u6, u7, some (.int (grd d (U, 0) (ns.take i)).1), some (.int (grd d (U, 0) (ns.take i)).2), u10] ∧ H' = H4) ⟨_, _, _, rfl, rfl⟩ (fun i σ H' _ ⟨_, _, _, _, e⟩ => by rw [e]; exact SqL.of hq4) ?_ ?_
    · rintro i y σ H5 H6 hi ⟨u6, u7, u10, rfl, rfl⟩ ⟨rfl, hy⟩
      rw [List.length_map] at hi
      have hni : ns[i]? = some ns[i] := List.getElem?_eq_getElem hi
      have ey : y = .int ns[i] := by rw [List.getElem?_map, hni] at hy; exact (Option.some.inj hy).symm
      subst ey
      generalize ns[i] = n at hni
      have est : ∀ z : Int × Int, z = grd d (U, 0) (ns.take i) → (if n ≤ min d z.1 then ((z.1 - n, z.2 + 1) : Int × Int) else z) = grd d (U, 0) (ns.take (i + 1)) := fun z e => by rw [take_succ_snoc hni, grd_snoc, ← e]
      generalize grd d (U, 0) (ns.take i) = z at est
      have est := est z rfl
      tm_at "wp"
      have emn : (if z.1 < d then z.1 else d) = min d z.1 := by split <;> omega
      rw [emn]
      refine w_ited (fun h => ?_) (fun h => ?_)
      · tm_at "wp"
        rw [if_pos h] at est
        rw [← est]
        exact ⟨_, _, _, rfl, rfl⟩
      · tm_at "wp"
        rw [if_neg h] at est
        rw [← est]
        exact ⟨_, _, _, rfl, rfl⟩
    · rintro σ H5 ⟨u6, u7, u10, rfl, rfl⟩
      rw [List.length_map, List.take_length]
      generalize grd d (U, 0) ns = z at eres
      have ew : worth g d U (z.2, U - z.1) = z.2 + if g ≤ d then z.1 / g else 0 := by
        unfold worth
        show z.2 + (if g ≤ d then (U - (U - z.1)) / g else 0) = _
        rw [show U - (U - z.1) = z.1 by omega]
      rw [eres, ew] at k
      tm_at "wp"
      refine w_ited (fun h => ?_) (fun h => ?_)
      · have hcd : CDivW z.1 g := ⟨by omega, Nat.lt_trans (log2_le g (by omega) (by have : (10 : Int) ^ 90 + 1 ≤ 10 ^ 100 := (by decide); omega)) (by decide)⟩
        tm_at "wp"
        rw [if_pos h] at k
        exact k _ s04
      · tm_at "wp"
        rw [if_neg h, Int.add_zero] at k
        exact k _ s04
theorem ok_surely_among {P : Program} {w : World} {K : PySem.W.Frag} {mg : Str → Option Value} {base : Heap} (fr : Fre mg) (D : Dfd K mg "surely_among" s_surely_among)
    (h_most_ahead : Has P w K mg base CX0 5 "most_ahead" s_most_ahead ["summary", "size", "name"] (sp_most_ahead K))
    (h_is_from : Has P w K mg base CX0 2 "is_from" s_is_from ["thing", "least"] (sp_is_from K)) : Has P w K mg base CX0 6 "surely_among" s_surely_among ["summary", "size", "name", "number"] (sp_surely_among K) := by
  refine D.has sc_surely_among (fun vs H Q E h => ?_) (fun cdv A outer s H vs Q E hr hg h => ?_)
  · obtain ⟨v, c, ps, N, d, x, m, rfl, _⟩ := h; rfl
  · obtain ⟨v, c, ps, N, d, x, m, rfl, ho, hv, hN, hd, hx, hsum, hm, k⟩ := h
    have nd := sc_surely_among.nd
    refine ⟨_, PSs.nox (pss_cons (ps_set (i := 4) nd rfl (Or.inl rfl) (pe_fn h_most_ahead pb_most_ahead (hr.mono (by decide)) hg rfl pass0 (pa_cons (pv 0) (pa_cons (pv 1) (pa_cons (pv 2) pa_nil)))))
      (pss_cons (ps_if (pt_not (pt_val (pe_fn h_is_from pb_is_from (hr.mono (by decide)) hg rfl pass0 (pa_cons (pv 3) (pa_cons pe_int pa_nil))))) (pss_one ps_never) pss_nil)
      (pss_one (ps_ret (pe_cmpR op_lt (pv 4) (pv 3) (nomark _)))))), ?_⟩
    try dsimp only [cxOf]
    tm_at "wp"
    refine ⟨v, c, ps, N, d, x, rfl, ho, hv, hN, hd, hx, hsum, fun H1 s1 => ?_⟩
    tm_at "wp"
    refine ⟨.int m, .int m, 1, rfl, .int m, ?_⟩
    have e1 : fromD (.int m) 1 = true := decide_eq_true hm
    rw [e1]
    refine w_bl ?_
    refine w_nott ?_
    tm_at "wp"
    exact k _ s1
theorem ok__law_cell {P : Program} {w : World} {K : PySem.W.Frag} {mg : Str → Option Value} {base : Heap} (fr : Fre mg) (D : Dfd K mg "_law_cell" s__law_cell) : Has P w K mg base CX0 1 "_law_cell" s__law_cell ["_law_script", "_law_k"] (sp__law_cell K) := by
  refine D.has sc__law_cell (fun vs H Q E h => ?_) (fun cdv A outer s H vs Q E hr hg h => ?_)
  · obtain ⟨a, ns, j, rfl, _⟩ := h; rfl
  · obtain ⟨a, ns, j, rfl, hs, hn, h0, h1, k⟩ := h
    have nd := sc__law_cell.nd
    refine ⟨_, PSs.nox (pss_cons (ps_if (pt_cmpR op_lt (pv 1) (pe_callB (k_len K) rfl fr.len_ (by decide +kernel) (pa_cons (pv 0) pa_nil)) (nomark _)) (pss_one (ps_ret (pe_ix (k_ixL K) (pv 0) (pv 1) (fun _ _ => rfl)))) pss_nil)
      (pss_cons (ps_set (i := 2) nd rfl (Or.inl rfl) (pe_op op_mod (pe_op op_mul pe_int (pe_op op_add (pe_op op_add (pe_op op_mul (pv 1) (pv 1)) (pe_op op_mul pe_int (pv 1))) pe_int)) pe_int))
      (pss_cons (ps_for PassesOwn.never rfl (k_iList K (pe_slice (k_slL K) (pv 0) po_none (po_some pe_int))) (pg_name (i := 3) nd rfl (Or.inl rfl))
        (pss_one (ps_set (i := 2) nd rfl (Or.inl rfl) (pe_op op_mod (pe_op op_add (pe_op op_mul (pv 2) pe_int) (pv 3)) pe_int))))
      (pss_one (ps_ret (pv 2)))))), ?_⟩
    try dsimp only [cxOf]
    tm_at "wp"
    refine w_lenL hs ?_
    tm_at "wp"
    refine w_ited (fun h2 => ?_) (fun h2 => ?_)
    · tm_at "wp"
      rw [List.length_map] at h2
      have h3 : j.toNat < ns.length := by omega
      refine w_ixL hs (v := .int ns[j.toNat]) ?_ ?_
      · exact at_of (j := j.toNat) (by omega) (by simp [h3])
      · exact k _ _ (Same.refl _)
    · tm_at "wp"
      refine w_slL hs ?_
      intro p hp
      refine w_onL (SqL.of upd_same) ?_
      have s0 : Same H (upd H p (.lst (cutV (ns.map V.int) none (some 3)))) := same_new hp
      refine for_go (walk_list (xs := cutV (ns.map V.int) none (some 3))) (fun i σ H' => ∃ z u, σ = [some (.ref a), some (.int j), some (.int z), u] ∧ 0 ≤ z ∧ z < 1000000007 ∧ H' = upd H p (.lst (cutV (ns.map V.int) none (some 3)))) ⟨_, none, rfl, Int.emod_nonneg _ (by decide), Int.emod_lt_of_pos _ (by decide), rfl⟩ (fun i σ H' _ ⟨_, _, _, _, _, e⟩ => by rw [e]; exact SqL.of upd_same) ?_ ?_
      · rintro i v σ H1 H2 hi ⟨z, u, rfl, z0, z1, rfl⟩ ⟨rfl, hy⟩
        obtain ⟨m, rfl⟩ : ∃ m, v = .int m := by
          have hm := List.mem_of_getElem? hy
          unfold cutV at hm
          have hm2 := List.mem_of_mem_drop (List.mem_of_mem_take hm)
          obtain ⟨m, _, e⟩ := List.mem_map.mp hm2
          exact ⟨m, e.symm⟩
        tm_at "wp"
        exact ⟨_, _, rfl, Int.emod_nonneg _ (by decide), Int.emod_lt_of_pos _ (by decide), rfl⟩
      · rintro σ H1 ⟨z, u, rfl, z0, z1, rfl⟩
        tm_at "wp"
        exact k _ _ s0
theorem okc__law_pool {P : Program} {w : World} {K : PySem.W.Frag} {mg : Str → Option Value} {base : Heap} (fr : Fre mg) (D : Dfd K mg "_law_pool" s__law_pool) : Has P w K mg base CX0 1 "_law_pool" s__law_pool ["_law_cell_here"] (spc__law_pool K) := by
  refine D.has sc__law_pool (fun vs H Q E h => ?_) (fun cdv A outer s H vs Q E hr hg h => ?_)
  · obtain ⟨n, rfl, _⟩ := h; rfl
  · obtain ⟨n, rfl, k⟩ := h
    have nd := sc__law_pool.nd
    refine ⟨_, PSs.nox (pss_cons (ps_set (i := 1) nd rfl (Or.inl rfl) pe_int)
      (pss_cons (ps_if (PW.pt (pw_or (pt_cmpR op_lt (pv 0) pe_int (nomark _)) (pw_or1 (pt_cmpR op_ge (pv 0) (pe_op op_pow pe_int pe_int) (nomark _))))) (pss_one (ps_set (i := 1) nd rfl (Or.inl rfl) (pe_callB c_abs rfl fr.abs_ (by decide +kernel) (pa_cons (pv 0) pa_nil)))) pss_nil)
      (pss_one (ps_ret (pe_lst (pa_cons (pe_op op_mod (pv 0) pe_int) (pa_cons (pv 1) (pa_cons pe_int pa_nil)))))))), ?_⟩
    try dsimp only [cxOf]
    have fin : ∀ (d : Int) (H' : Hp), 0 ≤ d → Same H H' → ∀ p, H' p = none → Q (.ref p) (upd H' p (.lst [.int (n % 1000000007), .int d, .int 0])) := fun d H' hd s p hp =>
      k p _ _ _ _ (s.free hp) (same_step s hp) upd_same ⟨Int.emod_nonneg _ (by decide), Int.emod_lt_of_pos _ (by decide), hd, Int.le_refl 0⟩
    tm_at "wp"
    refine w_ited (fun h1 => ?_) (fun h1 => ?_)
    · tm_at "wp"
      rename_i hp
      exact fin _ _ (by split <;> omega) (Same.refl _) _ hp
    · tm_at "wp"
      refine w_ited (fun h2 => ?_) (fun h2 => ?_)
      · tm_at "wp"
        rename_i hp
        exact fin _ _ (by split <;> omega) (Same.refl _) _ hp
      · tm_at "wp"
        rename_i hp
        exact fin _ _ (Int.le_refl 0) (Same.refl _) _ hp
theorem ok__law_pool {P : Program} {w : World} {K : PySem.W.Frag} {mg : Str → Option Value} {base : Heap} (fr : Fre mg) (D : Dfd K mg "_law_pool" s__law_pool) : Has P w K mg base CX0 1 "_law_pool" s__law_pool ["_law_cell_here"] (sp__law_pool K) := has_pool (okc__law_pool fr D) rfl
theorem okc__law_draw {P : Program} {w : World} {K : PySem.W.Frag} {mg : Str → Option Value} {base : Heap} (fr : Fre mg) (D : Dfd K mg "_law_draw" s__law_draw) : Has P w K mg base CX0 1 "_law_draw" s__law_draw ["_law_pool_here", "_law_many"] (spc__law_draw K) := by
  refine D.has sc__law_draw (fun vs H Q E h => ?_) (fun cdv A outer s H vs Q E hr hg h => ?_)
  · obtain ⟨p, s0, d0, c0, m, rfl, _⟩ := h; rfl
  · obtain ⟨p, s0, d0, c0, m, rfl, hp, hv, m0, m1, k⟩ := h
    have nd := sc__law_draw.nd
    refine ⟨_, PSs.nox (pss_cons (ps_asg (pe_op op_add (pe_ix (k_ixL K) (pv 0) pe_int (fun _ _ => rfl)) pe_int) (pg_sub (pv 0) pe_int set_list))
      (pss_cons (ps_set (i := 2) nd rfl (Or.inl rfl) (pe_ix (k_ixL K) (pv 0) pe_int (fun _ _ => rfl)))
      (pss_cons (ps_asg (pe_op op_mod (pe_callTy c_int1 rfl fr.int_ (by decide +kernel) (pa_cons (pe_op op_add (pe_op op_add (pe_op op_mul (pv 2) (pe_op op_add (pe_op op_mod (pe_callTy c_int1 rfl fr.int_ (by decide +kernel) (pa_cons (pv 2) pa_nil)) pe_int) pe_int)) (pe_op op_mul pe_int (pe_ix (k_ixL K) (pv 0) pe_int (fun _ _ => rfl)))) pe_int) pa_nil)) pe_int) (pg_sub (pv 0) pe_int set_list))
      (pss_cons (ps_if (pt_cmpR op_gt (pe_ix (k_ixL K) (pv 0) pe_int (fun _ _ => rfl)) pe_int (nomark _)) (pss_cons (ps_asg (pe_callB c_divmod rfl fr.divmod_ (by decide +kernel) (pa_cons (pe_ix (k_ixL K) (pv 0) pe_int (fun _ _ => rfl)) (pa_cons (pv 1) pa_nil))) (k_gtup K rfl (pgs_cons (pg_sub (pv 0) pe_int set_list) (pgs_cons (pg_name (i := 3) nd rfl (Or.inl rfl)) pgs_nil))))
      (pss_one (ps_ret (pv 3)))) pss_nil)
      (pss_one (ps_ret (pe_op op_mod (pe_op op_fdiv (pe_ix (k_ixL K) (pv 0) pe_int (fun _ _ => rfl)) pe_int) (pv 1)))))))), ?_⟩
    try dsimp only [cxOf]
    obtain ⟨v0, v1, v2, v3⟩ := hv
    tm_at "wp"
    refine w_ixL (SqL.of hp) (v := .int c0) rfl ?_
    tm_at "wp"
    refine w_setL hp (j := 2) rfl ?_
    tm_at "wp"
    refine w_ixL (SqL.of upd_same) (v := .int s0) rfl ?_
    tm_at "wp"
    refine w_ixL (SqL.of upd_same) (v := .int (c0 + 1)) rfl ?_
    tm_at "wp"
    refine w_setL upd_same (j := 0) rfl ?_
    tm_at "wp"
    generalize hs1 : (s0 * (s0 % 46007 + 20011) + 60013 * (c0 + 1) + 5) % 1000000007 = s1
    have b0 : 0 ≤ s1 := by rw [← hs1]; exact Int.emod_nonneg _ (by decide)
    have b1 : s1 < 1000000007 := by rw [← hs1]; exact Int.emod_lt_of_pos _ (by decide)
    rw [upd_upd]
    have sb : ∀ l : HO, SameB p H (upd H p l) := fun l => SameB.upd
    refine w_ixL (SqL.of upd_same) (v := .int d0) rfl ?_
    tm_at "wp"
    refine w_ited (fun h1 => ?_) (fun h1 => ?_)
    · tm_at "wp"
      refine w_ixL (SqL.of upd_same) (v := .int d0) rfl ?_
      tm_at "wp"
      refine w_divW (divp200 m0 m1) ?_
      intro q hq
      have npq : p ≠ q := ne_of_none (upd_same (H := H) (a := p)) hq
      refine w_gtup (SqT.of upd_same) rfl ?_
      tm_at "wp"
      refine w_setL ((upd_ne npq).trans upd_same) (j := 1) rfl ?_
      tm_at "wp"
      refine k _ s1 (d0 / m) (c0 + 1) _ (Int.emod_nonneg _ (by omega)) (Int.emod_lt_of_pos _ m0) (fun b o nb e => ?_) upd_same ⟨b0, b1, Int.ediv_nonneg v2 (by omega), by omega⟩
      rw [upd_ne nb]
      have e2 := sb (.lst [.int s1, .int d0, .int (c0 + 1)]) b o nb e
      exact hp_new e2 hq
    · tm_at "wp"
      refine w_ixL (SqL.of upd_same) (v := .int s1) rfl ?_
      tm_at "wp"
      refine k _ s1 d0 (c0 + 1) _ (Int.emod_nonneg _ (by omega)) (Int.emod_lt_of_pos _ m0) (sb _) upd_same ⟨b0, b1, v2, by omega⟩
theorem ok__law_draw {P : Program} {w : World} {K : PySem.W.Frag} {mg : Str → Option Value} {base : Heap} (fr : Fre mg) (D : Dfd K mg "_law_draw" s__law_draw) : Has P w K mg base CX0 1 "_law_draw" s__law_draw ["_law_pool_here", "_law_many"] (sp__law_draw K) := has_draw (okc__law_draw fr D) rfl
theorem ok__law_words {P : Program} {w : World} {K : PySem.W.Frag} {mg : Str → Option Value} {base : Heap} (fr : Fre mg) (D : Dfd K mg "_law_words" s__law_words)
    (h__law_draw : Has P w K mg base CX0 1 "_law_draw" s__law_draw ["_law_pool_here", "_law_many"] (sp__law_draw K)) : Has P w K mg base CX0 2 "_law_words" s__law_words ["_law_pool_here", "_law_many"] (sp__law_words K) := by
  refine D.has sc__law_words (fun vs H Q E h => ?_) (fun cdv A outer s H vs Q E hr hg h => ?_)
  · obtain ⟨p, m, rfl, _⟩ := h; rfl
  · obtain ⟨p, m, rfl, hp, m0, m1, k⟩ := h
    have nd := sc__law_words.nd
    refine ⟨_, PSs.nox (pss_cons (ps_set (i := 2) nd rfl (Or.inr rfl) pe_str)
      (pss_cons (ps_set (i := 3) nd rfl (Or.inr rfl) (pe_lst (pa_cons pe_str (pa_cons pe_str (pa_cons pe_str (pa_cons pe_str (pa_cons pe_str (pa_cons pe_str (pa_cons pe_str (pa_cons pe_str (pa_cons pe_str (pa_cons pe_str (pa_cons pe_str (pa_cons pe_str (pa_cons pe_str (pa_cons pe_str (pa_cons pe_str pa_nil)))))))))))))))))
      (pss_cons (ps_asg (pe_tup (pa_cons (pe_fn h__law_draw pb__law_draw (hr.mono (by decide)) hg rfl pass0 (pa_cons (pv 0) (pa_cons pe_int pa_nil))) (pa_cons (pe_fn h__law_draw pb__law_draw (hr.mono (by decide)) hg rfl pass0 (pa_cons (pv 0) (pa_cons pe_int pa_nil))) pa_nil))) (k_gtup K rfl (pgs_cons (pg_name (i := 4) nd rfl (Or.inl rfl)) (pgs_cons (pg_name (i := 5) nd rfl (Or.inr rfl)) pgs_nil))))
      (pss_cons (ps_if (pt_cmpR op_eq (pv 4) pe_int (nomark _)) (pss_one (ps_ret (pe_lc (own := [("_law_k", 6)]) (g := gName 6) (tt := tYes) rfl nd (pi_range1 rfl fr.range_ (pa_cons (pv 1) pa_nil)) (blkOk_by (own := [("_law_k", 6)]) (N := N__law_words) (sc := defScope s__law_words) (by decide +kernel)) (fun _ _ _ _ _ => (pg_name (i := 6) nd rfl (Or.inl rfl))) (fun _ _ _ _ _ => pts_nil) (fun _ _ _ _ _ => (pe_ix (k_ixL K) (pv 3) (pe_op op_mod (pe_op op_add (pv 5) (pe_op op_mul pe_int (pv 6))) pe_int) (fun _ _ => rfl)))))) pss_nil)
      (pss_cons (ps_if (pt_cmpR op_eq (pv 4) pe_int (nomark _)) (pss_one (ps_ret (pe_lc (own := [("_law_k", 6)]) (g := gName 6) (tt := tYes) rfl nd (pi_range1 rfl fr.range_ (pa_cons (pv 1) pa_nil)) (blkOk_by (own := [("_law_k", 6)]) (N := N__law_words) (sc := defScope s__law_words) (by decide +kernel)) (fun _ _ _ _ _ => (pg_name (i := 6) nd rfl (Or.inl rfl))) (fun _ _ _ _ _ => pts_nil) (fun _ _ _ _ _ => (pe_op o_mulS (pe_ix ix_str (pv 2) (pe_op op_mod (pe_op op_add (pv 5) (pe_op op_mul pe_int (pv 6))) pe_int) (fun _ _ => rfl)) (pe_op op_add pe_int (pe_op op_mod (pv 6) pe_int))))))) pss_nil)
      (pss_cons (ps_set (i := 7) nd rfl (Or.inr rfl) (k_join K pe_str (pe_lc (own := [("_law_k", 6)]) (g := gName 6) (tt := tYes) rfl nd (pi_range1 rfl fr.range_ (pa_cons (pe_fn h__law_draw pb__law_draw (hr.mono (by decide)) hg rfl pass0 (pa_cons (pv 0) (pa_cons pe_int pa_nil))) pa_nil)) (blkOk_by (own := [("_law_k", 6)]) (N := N__law_words) (sc := defScope s__law_words) (by decide +kernel)) (fun _ _ _ _ _ => (pg_name (i := 6) nd rfl (Or.inl rfl))) (fun _ _ _ _ _ => pts_nil) (fun _ _ _ _ _ => (pe_ix ix_str (pv 2) (pe_fn h__law_draw pb__law_draw (hr.mono (by decide)) hg rfl pass0 (pa_cons (pv 0) (pa_cons pe_int pa_nil))) (fun _ _ => rfl))))))
      (pss_cons (ps_set (i := 8) nd rfl (Or.inr rfl) (pe_fn h__law_draw pb__law_draw (hr.mono (by decide)) hg rfl pass0 (pa_cons (pv 0) (pa_cons (pe_op op_add (pe_callB (k_len K) rfl fr.len_ (by decide +kernel) (pa_cons (pv 7) pa_nil)) pe_int) pa_nil))))
      (pss_one (ps_ret (pe_lc (own := [("_law_k", 6)]) (g := gName 6) (tt := tYes) rfl nd (pi_range1 rfl fr.range_ (pa_cons (pv 1) pa_nil)) (blkOk_by (own := [("_law_k", 6)]) (N := N__law_words) (sc := defScope s__law_words) (by decide +kernel)) (fun _ _ _ _ _ => (pg_name (i := 6) nd rfl (Or.inl rfl))) (fun _ _ _ _ _ => pts_nil) (fun _ _ _ _ _ => (pe_op o_addS (pe_op o_addS (pe_slice sl_str (pv 7) po_none (po_some (pv 8))) (pe_ix ix_str (pv 2) (pe_op op_mod (pe_op op_add (pv 5) (pe_op op_mul pe_int (pv 6))) pe_int) (fun _ _ => rfl))) (pe_slice sl_str (pv 7) (po_some (pv 8)) po_none))))))))))))), ?_⟩
    try dsimp only [cxOf]
    have fin : ∀ (f : Nat → Str) (D0 : Addr) (acc : List V) (H1 H2 : Hp), Same H H1 → H1 D0 = none → Same H1 H2 → H2 D0 = some (.lst acc) → acc.length = m.toNat → (∀ (i : Nat) (y : V), acc[i]? = some y → y = .str (f i)) → (((List.range 15).map f).Nodup ∧ ∀ w ∈ (List.range 15).map f, isName w = true) → QOne f → Q (.ref D0) H2 := by
      intro f D0 acc H1 H2 s1 h0 s2 ha hl hf hw hq1
      refine k D0 ((List.range m.toNat).map f) H2 (s1.free h0) (s1.trans s2) ?_ (words_mk (by omega) hw) fun e3 u hu w hw' q1 q2 => by
        subst e3
        obtain ⟨i, hi, rfl⟩ := List.mem_map.mp hu
        obtain ⟨j, hj, rfl⟩ := List.mem_map.mp hw'
        rw [hq1 i j (List.mem_range.mp hi) (List.mem_range.mp hj) q1 q2]
      rw [ha]
      have e : acc = (List.range m.toNat).map fun i => V.str (f i) := acc_map (by simpa using hl) fun i y e => by
        obtain ⟨h3, _⟩ := List.getElem?_eq_some_iff.mp e
        exact ⟨i, List.getElem?_range (by omega), hf i y e⟩
      rw [e, List.map_map]; rfl
    tm_at "wp"
    rename_i ml hml
    refine ⟨p, 3, rfl, by tm_at "heap", by decide, by decide, fun way H1 w0 w1 s1 => ?_⟩
    tm_at "wp"
    refine ⟨p, 15, rfl, by tm_at "heap", by decide, by decide, fun b H2 b0 b1 s2 => ?_⟩
    have s02 : Same H H2 := ((same_new hml).trans s1).trans s2
    have hm2 : SqL K H2 ml (menuW.map V.str) := SqL.of (s2 _ _ (s1 _ _ upd_same))
    have hp2 : H2 p = some (poolO p) := s02 _ _ hp
    tm_at "wp"
    rename_i tp htp
    refine w_gtup (SqT.of upd_same) rfl ?_
    have s3 : Same H2 (upd H2 tp (.tup [.int way, .int b])) := same_new htp
    have s03 := s02.trans s3
    generalize hH3 : upd H2 tp (.tup [.int way, .int b]) = H3 at s3 s03
    have hm3 := s3.seq hm2
    have hp3 := s3 _ _ hp2
    tm_at "wp"
    refine w_ited (fun h1 => ?_) (fun h1 => ?_)
    · tm_at "wp"
      refine w_onR1 ⟨by omega, by omega⟩ ?_
      intro D0 hD
      refine lc_map walk_range (n := m.toNat) (by omega) (fun i y => y = .str (wordA b.toNat i)) hD (fun _ _ => trivial) ?_ ?_ mono_gname
      · rintro i y H4 H5 hi s4 ⟨rfl, rfl⟩ Qy hq
        refine w_gname ⟨rfl, ?_⟩
        tm_at "wp"
        refine w_ixL (s4.seq hm3) (v := .str (wordA b.toNat i)) ?_ (hq _ _ (Same.refl _) rfl)
        refine at_of (j := (b.toNat + 4 * i) % 15) (by omega) ?_
        have hlt : (b.toNat + 4 * i) % 15 < menuW.length := by show _ < 15; omega
        rw [List.getElem?_map, List.getElem?_eq_getElem hlt]
        simp [wordA, List.getD, List.getElem?_eq_getElem hlt]
      · intro acc H4 s4 h0 ha hl hf
        exact fin _ D0 acc H3 H4 s03 h0 s4 ha hl hf (wordA_all b.toNat (by omega)) fun i j hi hj q1 _ => by rw [qA b.toNat (by omega) i hi] at q1; cases q1
    · tm_at "wp"
      refine w_ited (fun h2 => ?_) (fun h2 => ?_)
      · tm_at "wp"
        refine w_onR1 ⟨by omega, by omega⟩ ?_
        intro D0 hD
        refine lc_map walk_range (n := m.toNat) (by omega) (fun i y => y = .str (wordB b.toNat i)) hD (fun _ _ => trivial) ?_ ?_ mono_gname
        · rintro i y H4 H5 hi s4 ⟨rfl, rfl⟩ Qy hq
          refine w_gname ⟨rfl, ?_⟩
          tm_at "wp"
          refine w_ixS (z := letters) (by decide +kernel) (letters_at (Int.emod_nonneg _ (by decide)) (Int.emod_lt_of_pos _ (by decide))) ?_
          tm_at "wp"
          refine w_mulS (n := 1 + i % 8) (by omega) (by show 1 * _ ≤ _; omega) (by omega) (hq _ _ (Same.refl _) ?_)
          unfold wordB
          rw [show ((b + 7 * (0 + (i : Int))) % 26).toNat = (b.toNat + 7 * i) % 26 by omega]
        · intro acc H4 s4 h0 ha hl hf
          exact fin _ D0 acc H3 H4 s03 h0 s4 ha hl hf (wordB_all b.toNat (by omega)) fun i j hi hj q1 _ => by rw [qB b.toNat (by omega) i hi] at q1; cases q1
      · tm_at "wp"
        refine ⟨p, 8, rfl, hp3, by decide, by decide, fun n8 H4 n0 n1 s4 => ?_⟩
        tm_at "wp"
        refine w_onR1 ⟨by omega, by omega⟩ ?_
        intro D0 hD
        have hp4 := s4 _ _ hp3
        refine lc_map walk_range (n := n8.toNat) (by omega) (fun i y => ∃ c, y = .str ⟨#[c]⟩ ∧ isLet c = true) hD (fun _ _ => trivial) ?_ ?_ mono_gname
        · rintro i y H5 H6 hi s5 ⟨rfl, rfl⟩ Qy hq
          refine w_gname ⟨rfl, ?_⟩
          tm_at "wp"
          refine ⟨p, 26, rfl, s5 _ _ hp4, by decide, by decide, fun c H6 c0 c1 s6 => ?_⟩
          tm_at "wp"
          refine w_ixS (z := letters) (by decide +kernel) (letters_at c0 c1) (hq _ _ s6 ⟨_, rfl, ?_⟩)
          unfold isLet
          rw [decide_eq_true (by omega), decide_eq_true (by omega)]; rfl
        · intro acc H5 s5 h0 ha hl hf
          obtain ⟨ys, ey, hy⟩ : ∃ ys : List Str, acc = ys.map V.str ∧ ∀ y ∈ ys, ∃ c, y = ⟨#[c]⟩ ∧ isLet c = true := by
            refine ⟨acc.map fun v => match v with | .str y => y | _ => Str.empty, ?_, fun y hy => ?_⟩
            · rw [List.map_map]
              refine (List.map_id acc).symm.trans (List.map_congr_left fun v hv => ?_)
              obtain ⟨i, hi, e⟩ := List.mem_iff_getElem.mp hv
              obtain ⟨c, e2, _⟩ := hf i v (by rw [List.getElem?_eq_getElem hi, e])
              subst e2; rfl
            · obtain ⟨v, hv, e⟩ := List.mem_map.mp hy
              obtain ⟨i, hi, e1⟩ := List.mem_iff_getElem.mp hv
              obtain ⟨c, e2, hc⟩ := hf i v (by rw [List.getElem?_eq_getElem hi, e1])
              subst e2
              exact ⟨c, e.symm, hc⟩
          have hyl : ys.length = n8.toNat := by rw [← hl, ey, List.length_map]
          have flat : ∀ l : List Str, (∀ y ∈ l, ∃ c, y = ⟨#[c]⟩ ∧ isLet c = true) → (l.map fun y => y.cps.toList).flatten.length = l.length ∧ (∀ c ∈ (l.map fun y => y.cps.toList).flatten, isLet c = true) ∧ (l.map (·.length)).sum = l.length := by
            intro l
            induction l with
            | nil => intro _; simp
            | cons y r ih =>
              intro h
              obtain ⟨c, rfl, hc⟩ := h _ List.mem_cons_self
              obtain ⟨i1, i2, i3⟩ := ih fun z hz => h z (List.mem_cons_of_mem _ hz)
              refine ⟨by simp at i1 ⊢; omega, fun d hd => ?_, ?_⟩
              · simp at hd
                rcases hd with h1 | h1
                · rw [h1]; exact hc
                · exact i2 d (by simpa using h1)
              · simp only [List.map_cons, List.sum_cons, List.length_cons]
                have : (⟨#[c]⟩ : Str).length = 1 := rfl
                omega
          obtain ⟨f1, f2, f3⟩ := flat ys hy
          subst ey
          refine w_join (SqL.of ha) (by rw [f3]; show _ + _ * 0 ≤ _; omega) ?_
          rw [txt_join_eq]
          generalize hst : Str.join (Str.ofString "") ys = stem
          have est : stem.cps.toList = (ys.map fun y => y.cps.toList).flatten := by rw [← hst]; exact join0_list ys
          have lst : stem.length = n8.toNat := by rw [len_list, est, f1, hyl]
          have s05 : Same H H5 := (s03.trans s4).trans s5
          tm_at "wp"
          refine w_lenS (sz_le (by omega)) ?_
          tm_at "wp"
          refine ⟨p, _, rfl, s05 _ _ hp, by omega, by omega, fun at_ H6 a0 a1 s6 => ?_⟩
          have s06 := s05.trans s6
          obtain ⟨q, rfl⟩ := Int.eq_ofNat_of_zero_le a0
          have hsz : stem.cps.size = stem.length := rfl
          tm_at "wp"
          refine w_onR1 ⟨by omega, by omega⟩ ?_
          intro D1 hD1
          refine lc_map walk_range (n := m.toNat) (by omega) (fun i y => y = .str (wordC b.toNat (stem.cps.toList.take q) (stem.cps.toList.drop q) i)) hD1 (fun _ _ => trivial) ?_ ?_ mono_gname
          · rintro i y H7 H8 hi s7 ⟨rfl, rfl⟩ Qy hq
            have c1 : cutS stem none (some ((q : Nat) : Int)) = ⟨(stem.cps.toList.take q).toArray⟩ := by
              unfold cutS
              rw [HT.sIx_nat, HT.sIx_none, Nat.min_eq_left (by omega)]
              simp
            have c2 : cutS stem (some ((q : Nat) : Int)) none = ⟨(stem.cps.toList.drop q).toArray⟩ := by
              unfold cutS
              rw [HT.sIx_nat, HT.sIx_none, Nat.min_eq_left (by omega)]
              have : stem.cps.toList.length = stem.length := (len_list stem).symm
              rw [List.take_of_length_le (by rw [List.length_drop]; omega)]
            refine w_gname ⟨rfl, ?_⟩
            tm_at "wp"
            refine w_slS (sz_le (by omega)) ?_
            tm_at "wp"
            refine w_ixS (z := letters) (by decide +kernel) (letters_at (Int.emod_nonneg _ (by decide)) (Int.emod_lt_of_pos _ (by decide))) ?_
            rw [c1]
            refine w_addS (sz_le ?_) ?_
            · rw [len_list, len_list]; simp; omega
            tm_at "wp"
            refine w_slS (sz_le (by omega)) ?_
            rw [c2]
            refine w_addS (sz_le ?_) (hq _ _ (Same.refl _) ?_)
            · rw [len_list, len_list, app_list]; simp; omega
            · congr 1
              refine str_ext ?_
              rw [app_list, app_list]
              unfold wordC
              rw [show ((b + 5 * (0 + (i : Int))) % 26).toNat = (b.toNat + 5 * i) % 26 by omega]
              simp
          · intro acc2 H7 s7 h02 ha2 hl2 hf2
            refine fin _ D1 acc2 H6 H7 s06 h02 s7 ha2 hl2 hf2 (wordC_all (by omega) (fun c hc => f2 c (est ▸ List.mem_of_mem_take hc)) (fun c hc => f2 c (est ▸ List.mem_of_mem_drop hc)) ?_) (qC (by omega) _ _)
            rw [List.length_take, List.length_drop, ← len_list]; omega
theorem ok__law_flat {P : Program} {w : World} {K : PySem.W.Frag} {mg : Str → Option Value} {base : Heap} (fr : Fre mg) (D : Dfd K mg "_law_flat" s__law_flat) : Has P w K mg base CX0 1 "_law_flat" s__law_flat ["_law_held_here"] (sp__law_flat K) := by
  refine D.has sc__law_flat (fun vs H Q E h => ?_) (fun cdv A outer s H vs Q E hr hg h => ?_)
  · obtain ⟨a, t, rfl, _⟩ := h; rfl
  · obtain ⟨a, t, rfl, ha, hn, hl, k⟩ := h
    have nd := sc__law_flat.nd
    refine ⟨_, PSs.nox (pss_one (ps_ret (pe_callTy (k_tuple K) rfl fr.tuple_ (by decide +kernel) (pa_cons (pe_lc (own := [("_law_word", 1)]) (g := gName 1) (tt := tYes) rfl nd (k_iList K (pe_callB (c_sortedDk rfl) rfl fr.sorted_ (by decide +kernel) (pa_cons (pv 0) pa_nil))) (blkOk_by (own := [("_law_word", 1)]) (N := N__law_flat) (sc := defScope s__law_flat) (by decide +kernel)) (fun _ _ _ _ _ => (pg_name (i := 1) nd rfl (Or.inl rfl))) (fun _ _ _ _ _ => pts_nil) (fun _ _ _ _ _ => (pe_tup (pa_cons (pv 1) (pa_cons (pe_dget (hu_of hr) (pv 0) (pv 1) (fun _ _ => rfl)) pa_nil))))) pa_nil)))), ?_⟩
    try dsimp only [cxOf]
    tm_at "wp"
    refine w_sortedDk ha hl ?_
    intro ys q hperm hsorted hq
    have asc := sorted_asc hsorted (hperm.nodup_iff.mpr hn)
    have hlen : ys.length = t.length := by rw [hperm.length_eq, List.length_map]
    refine w_onL (SqL.of upd_same) ?_
    intro D0 hD
    refine lc_dat K (walk_list (xs := ys.map V.str)) (by rw [List.length_map]; omega) (fun i d => ∃ y, ys[i]? = some y ∧ d = pairD (y, getT t y)) hD (fun _ s => s.seq (SqL.of upd_same)) ?_ ?_ mono_gname
    · rintro i y H1 H2 hi s ⟨rfl, hy⟩ Qy hq1
      rw [List.length_map] at hi
      have ey : y = .str ys[i] := by rw [List.getElem?_map, List.getElem?_eq_getElem hi] at hy; exact (Option.some.inj hy).symm
      subst ey
      have hin : ys[i] ∈ t.map (·.1) := hperm.mem_iff.mp (List.getElem_mem hi)
      have ha1 : H2 a = some (.dK (kvOf t)) := s _ _ (hp_new ha hq)
      refine w_gname ⟨rfl, ?_⟩
      tm_at "wp"
      refine w_dgetc ha1 (kv_some hin) ?_
      tm_at "wp"
      rename_i T hT
      exact hq1 _ _ _ (same_new hT) (pair_mk (SqT.of upd_same)) rfl ⟨_, List.getElem?_eq_getElem hi, rfl⟩
    · intro acc ds H1 s1 _ hacc hdp _ hdl hR
      have e0 : ds = ys.map fun y => pairD (y, getT t y) := ds_eq (by rw [hdl, List.length_map]) hR
      have e : ds = (tabF t ys).map pairD := by rw [e0]; unfold tabF; rw [List.map_map]; rfl
      rw [e] at hdp
      tm_at "wp"
      refine w_tupL (SqL.of hacc) ?_
      intro T hT
      exact k (.ref T) ys _ (((same_new hq).trans s1).trans (same_new hT)) (.tup (SqT.of upd_same) (dps_same (same_new hT) hdp)) hperm asc
theorem ok__law_held {P : Program} {w : World} {K : PySem.W.Frag} {mg : Str → Option Value} {base : Heap} (fr : Fre mg) (D : Dfd K mg "_law_held" s__law_held) : Has P w K mg base CX0 1 "_law_held" s__law_held ["_law_bag"] (sp__law_held K) := by
  refine D.has sc__law_held (fun vs H Q E h => ?_) (fun cdv A outer s H vs Q E hr hg h => ?_)
  · obtain ⟨v, ps, rfl, _⟩ := h; rfl
  · obtain ⟨v, ps, rfl, hd, hn, hl0, k⟩ := h
    have nd := sc__law_held.nd
    refine ⟨_, PSs.nox (pss_cons (ps_set (i := 1) nd rfl (Or.inl rfl) pe_dnewK)
      (pss_cons (ps_for PassesOwn.never rfl (k_iTup K (pv 0)) (k_gtup K rfl (pgs_cons (pg_name (i := 2) nd rfl (Or.inl rfl)) (pgs_cons (pg_name (i := 3) nd rfl (Or.inl rfl)) pgs_nil)))
        (pss_one (ps_dput (hu_of hr) (pv 1) (pv 2) (pv 3) rfl)))
      (pss_one (ps_ret (pv 1))))), ?_⟩
    try dsimp only [cxOf]
    obtain ⟨a, xs, rfl, hs, hx, hl⟩ := bag_inv hd
    tm_at "wp"
    rename_i d hd0
    refine w_onT (sqt_same (same_new hd0) hs) ?_
    refine for_go (walk_tup (xs := xs)) (fun i σ H' => ∃ u w, σ = [some (.ref a), some (.ref d), u, w] ∧ Same H H' ∧ H' d = some (.dK (kvOf (ps.take i)))) ⟨none, none, rfl, same_new hd0, upd_same⟩ (fun i σ H' _ ⟨_, _, _, s, _⟩ => sqt_same s hs) ?_ ?_
    · rintro i v σ H1 H2 hi ⟨u, w, rfl, s1, hd1⟩ ⟨rfl, hy⟩
      obtain ⟨p, b, e1, rfl, hb⟩ := bag_get hx hy
      refine w_gtup (sqt_same s1 hb) rfl ?_
      tm_at "wp"
      refine w_dputk hd1 (by rw [kv_len, List.length_take]; exact Nat.lt_of_le_of_lt (show _ ≤ 100000 by omega) (by decide)) ?_
      tm_at "wp"
      refine ⟨_, _, rfl, same_mut s1 hd0, ?_⟩
      have hnot : p.1 ∉ keys (ps.take i) := fun z => by
        obtain ⟨hi', e2⟩ := List.getElem?_eq_some_iff.mp e1
        have h2 : (keys (ps.take i ++ ps.drop i)).Nodup := by rw [List.take_append_drop]; exact hn
        unfold keys at h2 z
        rw [List.map_append, List.nodup_append] at h2
        exact h2.2.2 _ z _ (List.mem_map.mpr ⟨p, by rw [List.drop_eq_getElem_cons hi', e2]; exact List.mem_cons_self, rfl⟩) rfl
      rw [kv_put, upd_same, put_new hnot, take_succ_snoc e1]
    · rintro σ H1 ⟨u, w, rfl, s1, hd1⟩
      tm_at "wp"
      refine k d _ hd0 s1 ?_
      rw [hd1, List.take_of_length_le (by omega)]
theorem ok__law_sum {P : Program} {w : World} {K : PySem.W.Frag} {mg : Str → Option Value} {base : Heap} (fr : Fre mg) (D : Dfd K mg "_law_sum" s__law_sum) : Has P w K mg base CX0 1 "_law_sum" s__law_sum ["_law_bag"] (sp__law_sum K) := by
  refine D.has sc__law_sum (fun vs H Q E h => ?_) (fun cdv A outer s H vs Q E hr hg h => ?_)
  · obtain ⟨v, ps, rfl, _⟩ := h; rfl
  · obtain ⟨v, ps, rfl, hd, hn, k⟩ := h
    have nd := sc__law_sum.nd
    refine ⟨_, PSs.nox (pss_one (ps_ret (pe_callB (k_sum K rfl) rfl fr.sum_ (by decide +kernel) (pa_cons (pe_lc (own := [("_law_pair", 1)]) (g := gName 1) (tt := tYes) rfl nd (k_iTup K (pv 0)) (blkOk_by (own := [("_law_pair", 1)]) (N := N__law_sum) (sc := defScope s__law_sum) (by decide +kernel)) (fun _ _ _ _ _ => (pg_name (i := 1) nd rfl (Or.inl rfl))) (fun _ _ _ _ _ => pts_nil) (fun _ _ _ _ _ => (pe_ix (k_ixT K) (pv 1) pe_int (fun _ _ => rfl)))) pa_nil)))), ?_⟩
    try dsimp only [cxOf]
    obtain ⟨a, xs, rfl, hs, hx, hl⟩ := bag_inv hd
    tm_at "wp"
    refine w_onT hs ?_
    intro D0 hD
    refine lc_map walk_tup (n := xs.length) (by omega) (fun i y => ∃ p, ps[i]? = some p ∧ y = .int p.2) hD (fun _ s => sqt_same s hs) ?_ ?_ mono_gname
    · rintro i y H1 H2 hi s ⟨rfl, hy⟩ Qy hq
      obtain ⟨p, b, e1, rfl, hb⟩ := bag_get hx hy
      refine w_gname ⟨rfl, ?_⟩
      tm_at "wp"
      refine w_ixT (sqt_same s hb) (v := .int p.2) rfl ?_
      exact hq _ _ (Same.refl _) ⟨p, e1, rfl⟩
    · intro acc H1 s _ hacc hl2 hf
      have e : acc = (ps.map (·.2)).map V.int := by
        rw [List.map_map]
        exact acc_map (by omega) hf
      rw [e] at hacc
      refine w_sum (SqL.of hacc) ?_
      exact k _ s
theorem ok__law_loaded {P : Program} {w : World} {K : PySem.W.Frag} {mg : Str → Option Value} {base : Heap} (fr : Fre mg) (D : Dfd K mg "_law_loaded" s__law_loaded)
    (h__law_held : Has P w K mg base CX0 1 "_law_held" s__law_held ["_law_bag"] (sp__law_held K))
    (h__law_flat : Has P w K mg base CX0 1 "_law_flat" s__law_flat ["_law_held_here"] (sp__law_flat K)) : Has P w K mg base CX0 2 "_law_loaded" s__law_loaded ["_law_held_here", "_law_words_here", "_law_units"] (sp__law_loaded K) := by
  refine D.has sc__law_loaded (fun vs H Q E h => ?_) (fun cdv A outer s H vs Q E hr hg h => ?_)
  · obtain ⟨v, ps, a, b, ws, us, rfl, _⟩ := h; rfl
  · obtain ⟨v, ps, a, b, ws, us, rfl, hv, hb, ha, hbb, hn, hl, hu, h64, k⟩ := h
    have nd := sc__law_loaded.nd
    refine ⟨_, PSs.nox (pss_cons (ps_set (i := 3) nd rfl (Or.inl rfl) (pe_fn h__law_held pb__law_held (hr.mono (by decide)) hg rfl pass0 (pa_cons (pv 0) pa_nil)))
      (pss_cons (ps_for PassesOwn.never rfl (pi_range1 rfl fr.range_ (pa_cons (pe_callB (k_len K) rfl fr.len_ (by decide +kernel) (pa_cons (pv 1) pa_nil)) pa_nil)) (pg_name (i := 4) nd rfl (Or.inl rfl))
        (pss_one (ps_dput (hu_of hr) (pv 3) (pe_ix (k_ixL K) (pv 1) (pv 4) (fun _ _ => rfl)) (pe_op op_add (pe_dget2 (hu_of hr) (pv 3) (pe_ix (k_ixL K) (pv 1) (pv 4) (fun _ _ => rfl)) pe_int ⟨rfl, rfl, rfl, rfl⟩) (pe_ix (k_ixL K) (pv 2) (pv 4) (fun _ _ => rfl))) rfl)))
      (pss_one (ps_ret (pe_callTy (k_tuple K) rfl fr.tuple_ (by decide +kernel) (pa_cons (pe_lc (own := [("_law_pair", 5)]) (g := gName 5) rfl nd (k_iTup K (pe_fn h__law_flat pb__law_flat (hr.mono (by decide)) hg rfl pass0 (pa_cons (pv 3) pa_nil))) (blkOk_by (own := [("_law_pair", 5)]) (N := N__law_loaded) (sc := defScope s__law_loaded) (by decide +kernel)) (fun _ _ _ _ _ => (pg_name (i := 5) nd rfl (Or.inl rfl))) (fun _ _ _ _ _ => (pts_one (pt_cmpR op_gt (pe_ix (k_ixT K) (pv 5) pe_int (fun _ _ => rfl)) pe_int (nomark _)))) (fun _ _ _ _ _ => (pv 5))) pa_nil)))))), ?_⟩
    try dsimp only [cxOf]
    have hpl : ps.length < 64 := by omega
    tm_at "wp"
    refine ⟨v, ps, rfl, hv, hb.tab.nd, by omega, fun d H1 h0 s1 hd => ?_⟩
    tm_at "wp"
    refine w_lenL (s1.seq ha) ?_
    tm_at "wp"
    rw [List.length_map]
    refine w_onR1 ⟨by omega, by omega⟩ ?_
    refine for_go walk_range (fun i σ H' => ∃ u4 u5, σ = [some v, some (.ref a), some (.ref b), some (.ref d), u4, u5] ∧ Same H H' ∧ H' d = some (.dK (kvOf (((ws.zip us).take i).foldl addT ps)))) ⟨_, _, rfl, s1, hd⟩ (fun _ _ _ _ _ => trivial) ?_ ?_
    · rintro i y σ H2 H3 hi ⟨u4, u5, rfl, s2, hd2⟩ ⟨rfl, rfl⟩
      have hi : i < ws.length := by omega
      have hiu : i < us.length := by omega
      refine w_gname ?_
      tm_at "wp"
      refine w_isD hd2 ?_
      tm_at "wp"
      refine w_ixL (v := .str ws[i]) (s2.seq ha) (at_of' (j := i) (by omega) (by rw [List.getElem?_map, List.getElem?_eq_getElem hi]; rfl)) ?_
      tm_at "wp"
      refine w_dgetk hd2 ?_
      rw [kv_get]
      tm_at "wp"
      refine w_ixL (v := .int us[i]) (s2.seq hbb) (at_of' (j := i) (by omega) (by rw [List.getElem?_map, List.getElem?_eq_getElem hiu]; rfl)) ?_
      tm_at "wp"
      refine w_ixL (v := .str ws[i]) (s2.seq ha) (at_of' (j := i) (by omega) (by rw [List.getElem?_map, List.getElem?_eq_getElem hi]; rfl)) ?_
      have hz : (ws.zip us)[i]? = some (ws[i], us[i]) := List.getElem?_zip_eq_some.mpr ⟨List.getElem?_eq_getElem hi, List.getElem?_eq_getElem hiu⟩
      have hln := foldl_addT_len ((ws.zip us).take i) ps
      refine w_dputk hd2 (sz_lt (by rw [kv_len]; rw [List.length_take] at hln; omega)) ?_
      tm_at "wp"
      refine ⟨_, _, rfl, same_mut s2 h0, ?_⟩
      rw [take_succ_snoc hz, List.foldl_append, kv_put]
      exact upd_same
    · rintro σ H2 ⟨u4, u5, rfl, s2, hd2⟩
      have et : (ws.zip us).take ((ws.length : Nat) : Int).toNat = ws.zip us := List.take_of_length_le (by rw [List.length_zip]; omega)
      rw [et] at hd2
      have hln := foldl_addT_len (ws.zip us) ps
      have hzl : (ws.zip us).length ≤ ws.length := by rw [List.length_zip]; omega
      tm_at "wp"
      refine ⟨d, _, rfl, hd2, fold_nodup _ _ hb.tab.nd, by omega, fun w ys H3 s3 hw hp asc => ?_⟩
      have hlo := load_ok hb hn hl hu hp asc
      generalize (ws.zip us).foldl addT ps = t at *
      obtain ⟨aw, xs, rfl, hs, hx, hxl⟩ := bag_inv hw
      refine w_onT hs ?_
      intro D hD
      refine lc_fmd K (walk_tup (xs := xs)) (tabF t ys) (fun p => if 0 < p.2 then some (pairD p) else none) (by omega) (by
        have h1 := hp.length_eq
        unfold keys at h1
        rw [List.length_map] at h1
        have : (tabF t ys).length = ys.length := by unfold tabF; rw [List.length_map]
        omega) (fun a' d' e => by by_cases z : 0 < a'.2 <;> simp [z] at e; subst e; rfl) hD (fun _ s => sqt_same s hs) ?_ ?_
      · rintro i y q H4 H5 hi s ⟨rfl, hy⟩ Qy Qn hq hqn
        obtain ⟨p', bb, e1, rfl, hbb⟩ := bag_get hx hy
        rw [hi] at e1
        cases (Option.some.inj e1)
        refine w_gname ⟨rfl, ?_⟩
        tm_at "wp"
        refine w_ixT (sqt_same s hbb) (v := .int q.2) rfl ?_
        tm_at "wp"
        refine w_ited (fun h => ?_) (fun h => ?_)
        · tm_at "wp"
          exact hq _ _ _ (Same.refl _) (by rw [if_pos h]) (pair_mk (sqt_same s hbb))
        · exact hqn _ (Same.refl _) (by rw [if_neg h])
      intro acc H4 s4 _ hacc hdp
      have e : (tabF t ys).filterMap (fun p => if 0 < p.2 then some (pairD p) else none) = (canF (getT t) ys).map pairD := by
        rw [← filt_can]
        generalize tabF t ys = l
        induction l with
        | nil => rfl
        | cons q r ih =>
          rw [List.filterMap_cons]
          by_cases z : 0 < q.2
          · rw [if_pos z, List.filter_cons_of_pos (by simpa using z), List.map_cons, ih]
          · rw [if_neg z, List.filter_cons_of_neg (by simpa using z), ih]
      rw [e] at hdp
      tm_at "wp"
      refine w_tupL (SqL.of hacc) ?_
      intro T hT
      exact k (.ref T) _ _ (s2.trans (s3.trans (s4.trans (same_new hT)))) (.tup (SqT.of upd_same) (dps_same (same_new hT) hdp)) hlo
theorem ok__law_dealt {P : Program} {w : World} {K : PySem.W.Frag} {mg : Str → Option Value} {base : Heap} (fr : Fre mg) (D : Dfd K mg "_law_dealt" s__law_dealt)
    (h__law_draw : Has P w K mg base CX0 1 "_law_draw" s__law_draw ["_law_pool_here", "_law_many"] (sp__law_draw K)) : Has P w K mg base CX0 2 "_law_dealt" s__law_dealt ["_law_pool_here", "_law_many", "_law_left", "_law_deep"] (sp__law_dealt K) := by
  refine D.has sc__law_dealt (fun vs H Q E h => ?_) (fun cdv A outer s H vs Q E hr hg h => ?_)
  · obtain ⟨p, m, U, d, rfl, _⟩ := h; rfl
  · obtain ⟨p, m, U, d, rfl, hp, hm, hd, hd2, hU, hUm, k⟩ := h
    have nd := sc__law_dealt.nd
    refine ⟨_, PSs.nox (pss_cons (ps_set (i := 4) nd rfl (Or.inl rfl) (pe_lst pa_nil))
      (pss_cons (ps_for PassesOwn.never rfl (pi_range1 rfl fr.range_ (pa_cons (pv 1) pa_nil)) (pg_name (i := 5) nd rfl (Or.inl rfl))
        (pss_cons (ps_set (i := 6) nd rfl (Or.inl rfl) (pe_callB (c_max2 rfl) rfl fr.max_ (by decide +kernel) (pa_cons pe_int (pa_cons (pe_op op_sub (pv 2) (pe_op op_mul (pv 3) (pe_op op_sub (pe_op op_sub (pv 1) (pv 5)) pe_int))) pa_nil))))
      (pss_cons (ps_expr (k_bm K PySem.F.plainAttrs_list PySem.F.slot_list_append PySem.F.type_list_append mt_append (pv 4) (pa_cons (pe_op op_add (pv 6) (pe_fn h__law_draw pb__law_draw (hr.mono (by decide)) hg rfl pass0 (pa_cons (pv 0) (pa_cons (pe_op op_add (pe_op op_sub (pe_callB (c_min2 rfl) rfl fr.min_ (by decide +kernel) (pa_cons (pv 3) (pa_cons (pv 2) pa_nil))) (pv 6)) pe_int) pa_nil)))) pa_nil)))
      (pss_one (ps_set (i := 2) nd rfl (Or.inl rfl) (pe_op op_sub (pv 2) (pe_ix (k_ixL K) (pv 4) (pe_un un_neg pe_int) (fun _ _ => rfl))))))))
      (pss_one (ps_ret (pv 4))))), ?_⟩
    try dsimp only [cxOf]
    tm_at "wp"
    rename_i l hl
    refine w_onR1 ⟨by omega, by omega⟩ ?_
    refine for_go walk_range (fun i σ H' => ∃ (us : List Int) (L : Int) (u5 u6 : Option V), σ = [some (.ref p), some (.int (m : Nat)), some (.int L), some (.int d), some (.ref l), u5, u6] ∧ Same H H' ∧ H' l = some (.lst (us.map V.int)) ∧ us.length = i ∧ (∀ u ∈ us, 0 ≤ u ∧ u ≤ d) ∧ us.sum = U - L ∧ 0 ≤ L ∧ L ≤ d * ((m : Nat) - (i : Nat))) ⟨[], U, none, none, rfl, same_new hl, upd_same, rfl, nofun, by show (0 : Int) = U - U; omega, hU, by rw [show ((m : Nat) : Int) - ((0 : Nat) : Int) = (m : Nat) by omega]; exact hUm⟩ (fun _ _ _ _ _ => trivial) ?_ ?_
    · rintro i y σ H2 H3 hi ⟨us, L, u5, u6, rfl, s2, hl2, hlen, hb, hsum, L0, L1⟩ ⟨rfl, rfl⟩
      have hi : i < m := by omega
      have e1 : d * (((m : Nat) : Int) - (i : Nat)) = d * (((m : Nat) : Int) - ((i + 1 : Nat) : Int)) + d := by
        rw [show ((m : Nat) : Int) - (i : Nat) = (((m : Nat) : Int) - ((i + 1 : Nat) : Int)) + 1 by omega, Int.mul_add, Int.mul_one]
      have hd1 : 0 ≤ d * (((m : Nat) : Int) - ((i + 1 : Nat) : Int)) := Int.mul_nonneg hd (by omega)
      have e2 : ((m : Nat) : Int) - (0 + (i : Nat)) - 1 = ((m : Nat) : Int) - ((i + 1 : Nat) : Int) := by omega
      refine w_gname ?_
      tm_at "wp"
      rw [e2]
      have elow : (if L - d * (((m : Nat) : Int) - ((i + 1 : Nat) : Int)) > 0 then L - d * (((m : Nat) : Int) - ((i + 1 : Nat) : Int)) else 0) = max 0 (L - d * (((m : Nat) : Int) - ((i + 1 : Nat) : Int))) := by split <;> omega
      rw [elow]
      generalize d * (((m : Nat) : Int) - ((i + 1 : Nat) : Int)) = W at *
      obtain ⟨low, elo⟩ : ∃ low, max 0 (L - W) = low := ⟨_, rfl⟩
      rw [elo]
      refine w_tyL hl2 ?_
      tm_at "wp"
      have emn : (if L < d then L else d) = min d L := by split <;> omega
      rw [emn]
      refine ⟨p, _, rfl, s2 _ _ hp, by omega, by omega, fun r H4 r0 r1 s4 => ?_⟩
      tm_at "wp"
      have hl4 := s4 _ _ hl2
      refine w_append hl4 (sz_lt (by rw [List.length_map]; omega)) ?_
      tm_at "wp"
      have e3 : us.map V.int ++ [V.int (low + r)] = (us ++ [low + r]).map V.int := by rw [List.map_append]; rfl
      rw [e3]
      refine w_ixL (SqL.of upd_same) (v := .int (low + r)) (by rw [← e3]; exact atI_last _ _) ?_
      tm_at "wp"
      refine ⟨us ++ [low + r], _, _, _, rfl, same_mut (s2.trans s4) hl, upd_same, by simp [hlen], fun u hu => ?_, by rw [List.sum_append, hsum]; simp; omega, by omega, by omega⟩
      rcases List.mem_append.mp hu with hu | hu
      · exact hb u hu
      · rw [List.mem_singleton.mp hu]; omega
    · rintro σ H2 ⟨us, L, u5, u6, rfl, s2, hl2, hlen, hb, hsum, L0, L1⟩
      have em : ((m : Nat) : Int).toNat = m := by omega
      rw [em] at hlen L1
      rw [show ((m : Nat) : Int) - ((m : Nat) : Int) = 0 by omega, Int.mul_zero] at L1
      tm_at "wp"
      exact k l us _ hl s2 hl2 hlen hb (by omega)
theorem ok__law_first_dealt {P : Program} {w : World} {K : PySem.W.Frag} {mg : Str → Option Value} {base : Heap} (fr : Fre mg) (D : Dfd K mg "_law_first_dealt" s__law_first_dealt) : Has P w K mg base CX0 1 "_law_first_dealt" s__law_first_dealt ["_law_many", "_law_left", "_law_deep"] (sp__law_first_dealt K) := by
  refine D.has sc__law_first_dealt (fun vs H Q E h => ?_) (fun cdv A outer s H vs Q E hr hg h => ?_)
  · obtain ⟨m, U, d, rfl, _⟩ := h; rfl
  · obtain ⟨m, U, d, rfl, hm1, hm, hd, hU, hUm, k⟩ := h
    have nd := sc__law_first_dealt.nd
    refine ⟨_, PSs.nox (pss_cons (ps_set (i := 3) nd rfl (Or.inl rfl) (pe_lst pa_nil))
      (pss_cons (ps_for PassesOwn.never rfl (pi_range1 rfl fr.range_ (pa_cons (pv 0) pa_nil)) (pg_name (i := 4) nd rfl (Or.inl rfl))
        (pss_cons (ps_expr (k_bm K PySem.F.plainAttrs_list PySem.F.slot_list_append PySem.F.type_list_append mt_append (pv 3) (pa_cons (pe_callB (c_min2 rfl) rfl fr.min_ (by decide +kernel) (pa_cons (pv 2) (pa_cons (pv 1) pa_nil))) pa_nil)))
      (pss_one (ps_set (i := 1) nd rfl (Or.inl rfl) (pe_op op_sub (pv 1) (pe_ix (k_ixL K) (pv 3) (pe_un un_neg pe_int) (fun _ _ => rfl)))))))
      (pss_one (ps_ret (pv 3))))), ?_⟩
    try dsimp only [cxOf]
    tm_at "wp"
    rename_i l hl
    refine w_onR1 ⟨by omega, by omega⟩ ?_
    refine for_go walk_range (fun i σ H' => ∃ (us : List Int) (L : Int) (u4 : Option V), σ = [some (.int (m : Nat)), some (.int L), some (.int d), some (.ref l), u4] ∧ Same H H' ∧ H' l = some (.lst (us.map V.int)) ∧ us.length = i ∧ (∀ u ∈ us, 0 ≤ u ∧ u ≤ d) ∧ us.sum = U - L ∧ 0 ≤ L ∧ L ≤ d * ((m : Nat) - (i : Nat)) ∧ (0 < i → us[0]? = some (min d U)) ∧ (i = 0 → L = U)) ⟨[], U, none, rfl, same_new hl, upd_same, rfl, nofun, by show (0 : Int) = U - U; omega, hU, by rw [show ((m : Nat) : Int) - ((0 : Nat) : Int) = (m : Nat) by omega]; exact hUm, fun z => absurd z (by decide), fun _ => rfl⟩ (fun _ _ _ _ _ => trivial) ?_ ?_
    · rintro i y σ H2 H3 hi ⟨us, L, u4, rfl, s2, hl2, hlen, hb, hsum, L0, L1, hf, hf0⟩ ⟨rfl, rfl⟩
      have hi : i < m := by omega
      have e1 : d * (((m : Nat) : Int) - (i : Nat)) = d * (((m : Nat) : Int) - ((i + 1 : Nat) : Int)) + d := by
        rw [show ((m : Nat) : Int) - (i : Nat) = (((m : Nat) : Int) - ((i + 1 : Nat) : Int)) + 1 by omega, Int.mul_add, Int.mul_one]
      have hd1 : 0 ≤ d * (((m : Nat) : Int) - ((i + 1 : Nat) : Int)) := Int.mul_nonneg hd (by omega)
      refine w_gname ?_
      tm_at "wp"
      refine w_tyL hl2 ?_
      tm_at "wp"
      have emn : (if L < d then L else d) = min d L := by split <;> omega
      rw [emn]
      refine w_append hl2 (sz_lt (by rw [List.length_map]; omega)) ?_
      tm_at "wp"
      have e3 : us.map V.int ++ [V.int (min d L)] = (us ++ [min d L]).map V.int := by rw [List.map_append]; rfl
      rw [e3]
      refine w_ixL (SqL.of upd_same) (v := .int (min d L)) (by rw [← e3]; exact atI_last _ _) ?_
      tm_at "wp"
      refine ⟨us ++ [min d L], _, _, rfl, same_mut s2 hl, upd_same, by simp [hlen], fun u hu => ?_, by rw [List.sum_append, hsum]; simp; omega, by omega, by omega, fun _ => ?_, fun z => absurd z (by omega)⟩
      · rcases List.mem_append.mp hu with hu | hu
        · exact hb u hu
        · rw [List.mem_singleton.mp hu]; omega
      · by_cases z : i = 0
        · subst z
          rw [hf0 rfl]
          cases us with
          | nil => rfl
          | cons a r => cases hlen
        · rw [List.getElem?_append_left (by omega)]
          exact hf (by omega)
    · rintro σ H2 ⟨us, L, u4, rfl, s2, hl2, hlen, hb, hsum, L0, L1, hf, hf0⟩
      have em : ((m : Nat) : Int).toNat = m := by omega
      rw [em] at hlen L1 hf
      rw [show ((m : Nat) : Int) - ((m : Nat) : Int) = 0 by omega, Int.mul_zero] at L1
      tm_at "wp"
      exact k l us _ hl s2 hl2 hlen hb (by omega) (hf (by omega))
theorem ok__law_count_ahead {P : Program} {w : World} {K : PySem.W.Frag} {mg : Str → Option Value} {base : Heap} (fr : Fre mg) (D : Dfd K mg "_law_count_ahead" s__law_count_ahead)
    (h__law_held : Has P w K mg base CX0 1 "_law_held" s__law_held ["_law_bag"] (sp__law_held K)) : Has P w K mg base CX0 2 "_law_count_ahead" s__law_count_ahead ["_law_bag", "_law_word"] (sp__law_count_ahead K) := by
  refine D.has sc__law_count_ahead (fun vs H Q E h => ?_) (fun cdv A outer s H vs Q E hr hg h => ?_)
  · obtain ⟨v, qs, x, rfl, _⟩ := h; rfl
  · obtain ⟨v, qs, x, rfl, hv, hnd, hl, k⟩ := h
    have nd := sc__law_count_ahead.nd
    refine ⟨_, PSs.nox (pss_cons (ps_set (i := 2) nd rfl (Or.inr rfl) (pe_dget2 (hu_of hr) (pe_fn h__law_held pb__law_held (hr.mono (by decide)) hg rfl pass0 (pa_cons (pv 0) pa_nil)) (pv 1) pe_int ⟨rfl, rfl, rfl, rfl⟩))
      (pss_one (ps_ret (pe_callB (k_len K) rfl fr.len_ (by decide +kernel) (pa_cons (pe_lc (own := [("_law_pair", 3)]) (g := gName 3) rfl nd (k_iTup K (pv 0)) (blkOk_by (own := [("_law_pair", 3)]) (N := N__law_count_ahead) (sc := defScope s__law_count_ahead) (by decide +kernel)) (fun _ _ _ _ _ => (pg_name (i := 3) nd rfl (Or.inl rfl))) (fun _ _ _ _ _ => (pts_one (pt_cmpR op_gt (pe_ix (k_ixT K) (pv 3) pe_int (fun _ _ => rfl)) (pv 2) (nomark _)))) (fun _ _ _ _ _ => (pv 3))) pa_nil))))), ?_⟩
    try dsimp only [cxOf]
    tm_at "wp"
    refine ⟨v, qs, rfl, hv, hnd, by omega, fun d H1 h0 s1 hd => ?_⟩
    refine w_isD hd ?_
    tm_at "wp"
    refine w_dgetk hd ?_
    rw [kv_get]
    obtain ⟨a, xs, rfl, hs, hx, hxl⟩ := bag_inv hv
    tm_at "wp"
    refine w_onT (sqt_same s1 hs) ?_
    intro D hD
    refine lc_fm (walk_tup (xs := xs)) (xs.zip qs) (fun q => if getT qs x < q.2.2 then some q.1 else none) (by rw [List.length_zip]; omega) (by omega) hD (fun _ s => sqt_same (s1.trans s) hs) ?_ ?_
    · rintro i y q H2 H3 hi s ⟨rfl, hy⟩ Qy hq
      have hz := List.getElem?_zip_eq_some.mp hi
      obtain ⟨p', bb, e1, rfl, hbb⟩ := bag_get hx hy
      rw [hz.2] at e1
      cases (Option.some.inj e1)
      have e2 : q.1 = .ref bb := by
        have h1 := hz.1
        have h2 : xs[i]? = some (V.ref bb) := hy
        rw [h1] at h2
        exact Option.some.inj h2
      refine w_gname ⟨rfl, ?_⟩
      tm_at "wp"
      refine w_ixT (sqt_same (s1.trans s) hbb) (v := .int q.2.2) rfl ?_
      tm_at "wp"
      refine w_ited (fun h => ?_) (fun h => ?_)
      · rw [if_pos h] at hq
        tm_at "wp"
        rw [← e2]
        exact hq _ (Same.refl _)
      · rw [if_neg h] at hq
        exact hq _ (Same.refl _)
    intro H2 s2 _ hacc
    tm_at "wp"
    refine w_lenL (SqL.of hacc) ?_
    have hlen : ∀ (qs' : Bag) (xs' : List V), xs'.length = qs'.length → ((xs'.zip qs').filterMap fun q => if getT qs x < q.2.2 then some q.1 else none).length = (qs'.filter fun p => decide (getT qs x < p.2)).length := fun qs' => by
      induction qs' with
      | nil => intro xs' h; simp
      | cons q r ih =>
        intro xs' h
        cases xs' with
        | nil => cases h
        | cons y s =>
          have ih := ih s (by simpa using h)
          rw [List.zip_cons_cons, List.filterMap_cons]
          by_cases z : getT qs x < q.2
          · rw [if_pos z, List.filter_cons_of_pos (by simpa using z), List.length_cons, List.length_cons, ih]
          · rw [if_neg z, List.filter_cons_of_neg (by simpa using z), ih]
    rw [hlen qs xs hxl]
    exact k _ (s1.trans s2)
theorem ok__law_raised {P : Program} {w : World} {K : PySem.W.Frag} {mg : Str → Option Value} {base : Heap} (fr : Fre mg) (D : Dfd K mg "_law_raised" s__law_raised)
    (h__law_held : Has P w K mg base CX0 1 "_law_held" s__law_held ["_law_bag"] (sp__law_held K))
    (h__law_loaded : Has P w K mg base CX0 2 "_law_loaded" s__law_loaded ["_law_held_here", "_law_words_here", "_law_units"] (sp__law_loaded K)) : Has P w K mg base CX0 3 "_law_raised" s__law_raised ["_law_width", "_law_held_here", "_law_deep", "_law_word"] (sp__law_raised K) := by
  refine D.has sc__law_raised (fun vs H Q E h => ?_) (fun cdv A outer s H vs Q E hr hg h => ?_)
  · obtain ⟨c, d, v, ps, x, rfl, _⟩ := h; rfl
  · obtain ⟨c, d, v, ps, x, rfl, c1, c3, d0, d3, hv, hb, hl, hx, k⟩ := h
    have nd := sc__law_raised.nd
    refine ⟨_, PSs.nox (pss_cons (ps_asg (pe_tup (pa_cons (pe_fn h__law_held pb__law_held (hr.mono (by decide)) hg rfl pass0 (pa_cons (pv 1) pa_nil)) (pa_cons (pe_op op_mul (pv 2) (pe_op op_add (pv 0) pe_int)) pa_nil))) (k_gtup K rfl (pgs_cons (pg_name (i := 4) nd rfl (Or.inr rfl)) (pgs_cons (pg_name (i := 5) nd rfl (Or.inl rfl)) pgs_nil))))
      (pss_cons (ps_set (i := 6) nd rfl (Or.inr rfl) (pe_op op_add (pe_dget2 (hu_of hr) (pv 4) (pv 3) pe_int ⟨rfl, rfl, rfl, rfl⟩) pe_int))
      (pss_cons (ps_setLc (i := 7) (own := [("_law_letter", 8)]) (g := gName 8) (tt := tYes) rfl nd rfl rfl (sw_true rfl rfl rfl (by decide +kernel)) (pi_str pe_str) (blkOk_by (own := [("_law_letter", 8)]) (N := N__law_raised) (sc := defScope s__law_raised) (by decide +kernel)) (fun _ _ _ _ _ => (pg_name (i := 8) nd rfl (Or.inl rfl))) (fun _ _ _ _ _ => pts_nil) (fun _ _ _ _ _ => (pe_op o_addS pe_str (pv 8))))
      (pss_cons (ps_set (i := 9) nd rfl (Or.inl rfl) (pe_op op_cat (pe_callB (c_sortedDk rfl) rfl fr.sorted_ (by decide +kernel) (pa_cons (pv 4) pa_nil)) (pe_lc (own := [("_law_each", 10)]) (g := gName 10) rfl nd (k_iList K (pv 7)) (blkOk_by (own := [("_law_each", 10)]) (N := N__law_raised) (sc := defScope s__law_raised) (by decide +kernel)) (fun _ _ _ _ _ => (pg_name (i := 10) nd rfl (Or.inl rfl))) (fun _ _ _ _ _ => (pts_one (pt_cmp (pc_dnotin (hu_of hr) (pv 10) (pv 4)) rfl))) (fun _ _ _ _ _ => (pv 10)))))
      (pss_cons (ps_setLc (i := 11) (own := [("_law_each", 10)]) (g := gName 10) (tt := tYes) rfl nd rfl rfl (sw_true rfl rfl rfl (by decide +kernel)) (k_iList K (pv 9)) (blkOk_by (own := [("_law_each", 10)]) (N := N__law_raised) (sc := defScope s__law_raised) (by decide +kernel)) (fun _ _ _ _ _ => (pg_name (i := 10) nd rfl (Or.inl rfl))) (fun _ _ _ _ _ => pts_nil) (fun _ _ _ _ _ => (pe_tup (pa_cons (pe_callB (c_max2 rfl) rfl fr.max_ (by decide +kernel) (pa_cons pe_int (pa_cons (pe_op op_sub (pv 6) (pe_dget2 (hu_of hr) (pv 4) (pv 10) pe_int ⟨rfl, rfl, rfl, rfl⟩)) pa_nil))) (pa_cons (pv 10) pa_nil)))))
      (pss_cons (ps_set (i := 12) nd rfl (Or.inl rfl) (pe_callB (k_sortedN K) rfl fr.sorted_ (by decide +kernel) (pa_cons (pe_lc (own := [("_law_pair", 13)]) (g := gName 13) rfl nd (k_iList K (pv 11)) (blkOk_by (own := [("_law_pair", 13)]) (N := N__law_raised) (sc := defScope s__law_raised) (by decide +kernel)) (fun _ _ _ _ _ => (pg_name (i := 13) nd rfl (Or.inl rfl))) (fun _ _ _ _ _ => (pts_one (pt_cmpR op_ne (pe_ix (k_ixT K) (pv 13) pe_int (fun _ _ => rfl)) (pv 3) (nomark _)))) (fun _ _ _ _ _ => (pv 13))) pa_nil)))
      (pss_cons (ps_set (i := 14) nd rfl (Or.inr rfl) (pe_callTy (k_dictP K rfl) rfl fr.dict_ (by decide +kernel) (pa_cons (pe_lc (own := [("_law_need", 15), ("_law_each", 10)]) (g := gTup K 2 (gCons (gName 15) (gCons (gName 10) gNil))) (tt := tYes) rfl nd (k_iList K (pv 12)) (blkOk_by (own := [("_law_need", 15), ("_law_each", 10)]) (N := N__law_raised) (sc := defScope s__law_raised) (by decide +kernel)) (fun _ _ _ _ _ => (k_gtup K rfl (pgs_cons (pg_name (i := 15) nd rfl (Or.inl rfl)) (pgs_cons (pg_name (i := 10) nd rfl (Or.inl rfl)) pgs_nil)))) (fun _ _ _ _ _ => pts_nil) (fun _ _ _ _ _ => (pe_tup (pa_cons (pv 10) (pa_cons pe_int pa_nil))))) pa_nil)))
      (pss_cons (ps_for PassesOwn.never rfl (k_iList K (pv 12)) (k_gtup K rfl (pgs_cons (pg_name (i := 15) nd rfl (Or.inl rfl)) (pgs_cons (pg_name (i := 10) nd rfl (Or.inl rfl)) pgs_nil)))
        (pss_one (ps_if (pt_cmpR op_le (pv 15) (pe_callB (c_min2 rfl) rfl fr.min_ (by decide +kernel) (pa_cons (pv 2) (pa_cons (pv 5) pa_nil))) (nomark _)) (pss_cons (ps_dput (hu_of hr) (pv 14) (pv 10) (pv 15) rfl)
      (pss_one (ps_set (i := 5) nd rfl (Or.inl rfl) (pe_op op_sub (pv 5) (pv 15))))) pss_nil)))
      (pss_cons (ps_for PassesOwn.never rfl (k_iList K (pv 12)) (k_gtup K rfl (pgs_cons (pg_name (i := 15) nd rfl (Or.inl rfl)) (pgs_cons (pg_name (i := 10) nd rfl (Or.inl rfl)) pgs_nil)))
        (pss_cons (ps_set (i := 16) nd rfl (Or.inl rfl) (pe_callB (c_min2 rfl) rfl fr.min_ (by decide +kernel) (pa_cons (pv 5) (pa_cons (pe_op op_sub (pv 2) (pe_dget (hu_of hr) (pv 14) (pv 10) (fun _ _ => rfl))) pa_nil))))
      (pss_cons (ps_dput (hu_of hr) (pv 14) (pv 10) (pe_op op_add (pe_dget (hu_of hr) (pv 14) (pv 10) (fun _ _ => rfl)) (pv 16)) rfl)
      (pss_one (ps_set (i := 5) nd rfl (Or.inl rfl) (pe_op op_sub (pv 5) (pv 16)))))))
      (pss_one (ps_ret (pe_fn h__law_loaded pb__law_loaded (hr.mono (by decide)) hg rfl pass0 (pa_cons (pv 1) (pa_cons (pe_callB (c_sortedDk rfl) rfl fr.sorted_ (by decide +kernel) (pa_cons (pv 14) pa_nil)) (pa_cons (pe_lc (own := [("_law_each", 10)]) (g := gName 10) (tt := tYes) rfl nd (k_iList K (pe_callB (c_sortedDk rfl) rfl fr.sorted_ (by decide +kernel) (pa_cons (pv 14) pa_nil))) (blkOk_by (own := [("_law_each", 10)]) (N := N__law_raised) (sc := defScope s__law_raised) (by decide +kernel)) (fun _ _ _ _ _ => (pg_name (i := 10) nd rfl (Or.inl rfl))) (fun _ _ _ _ _ => pts_nil) (fun _ _ _ _ _ => (pe_dget (hu_of hr) (pv 14) (pv 10) (fun _ _ => rfl)))) pa_nil))))))))))))))), ?_⟩
    try dsimp only [cxOf]
    have est : ∀ a0 a1 a2 a3 : V, L2.start N__law_raised [a0, a1, a2, a3] = [some a0, some a1, some a2, some a3, none, none, none, none, none, none, none, none, none, none, none, none, none] := fun _ _ _ _ => rfl
    simp only [est]
    clear est
    tm_at "vp"
    refine ⟨v, ps, rfl, hv, hb.tab.nd, by omega, fun t H1 h0 s1 ht => ?_⟩
    tm_at "vp"
    rename_i T hT
    refine w_gtup (SqT.of upd_same) rfl ?_
    have ht2 := hp_new ht hT (u := HO.tup [V.ref t, V.int (d * (c + 1))])
    have s2 := s1.trans (same_new hT (u := HO.tup [V.ref t, V.int (d * (c + 1))]))
    generalize upd H1 T (HO.tup [V.ref t, V.int (d * (c + 1))]) = H2 at *
    obtain ⟨U, eU⟩ : ∃ U, d * (c + 1) = U := ⟨_, rfl⟩
    rw [eU]
    have U0 : 0 ≤ U := by rw [← eU]; exact Int.mul_nonneg d0 (by omega)
    have U12 : U ≤ 12 := by
      have h1 : d * (c + 1) ≤ 3 * (c + 1) := Int.mul_le_mul_of_nonneg_right d3 (by omega)
      omega
    have gx0 := (getT_le hb.pos x).1
    tm_at "vp"
    simp only [List.set_cons_zero, List.set_cons_succ]
    refine w_isD ht2 ?_
    tm_at "vp"
    refine w_dgetk ht2 ?_
    rw [kv_get]
    obtain ⟨g, eg⟩ : ∃ g, getT ps x + 1 = g := ⟨_, rfl⟩
    tm_at "vp"
    rw [eg]
    intro D hD
    refine lc_map walk_str (by decide +kernel) (fun i y => ∃ w, freshN[i]? = some w ∧ y = .str w) hD (fun _ _ => trivial) ?_ ?_ mono_gname
    · rintro i y H3 H4 hi s ⟨rfl, ch, hch, rfl⟩ Qy hq
      refine w_gname ⟨rfl, ?_⟩
      tm_at "vp"
      have hi16 : i < 16 := hi
      have ech : ch = 97 + i := by
        rw [letters16, List.getElem?_toArray, List.getElem?_map, List.getElem?_range hi16] at hch
        exact (Option.some.inj hch).symm
      refine w_addS (sz_le (by
        have e1 : ("q" : Str).length = 1 := by decide +kernel
        have e2 : (⟨#[ch]⟩ : Str).length = 1 := rfl
        rw [e1, e2]; decide)) (hq _ _ (Same.refl _) ⟨⟨#[113, 97 + i]⟩, by unfold freshN; rw [List.getElem?_map, List.getElem?_range hi16]; rfl, ?_⟩)
      rw [ech]; rfl
    intro acc H3 s3 _ hacc hal hf
    have ea : acc = freshN.map V.str := acc_map (by rw [hal, fresh_len]; decide +kernel) hf
    subst ea
    tm_at "vp"
    refine w_sortedDk (s3 _ _ ht2) (by omega) ?_
    intro ks q hperm hsorted hq
    have asc := sorted_asc hsorted (hperm.nodup_iff.mpr hb.tab.nd)
    tm_at "vp"
    have hkl : ks.length = ps.length := by rw [hperm.length_eq, List.length_map]
    have s3' := s3.trans (same_new hq (u := HO.lst (ks.map V.str)))
    have fq : (upd H3 q (.lst (ks.map V.str))) q = some (.lst (ks.map V.str)) := upd_same
    have fD := hp_new hacc hq (u := HO.lst (ks.map V.str))
    generalize upd H3 q (HO.lst (ks.map V.str)) = H4 at *
    refine w_onL (SqL.of fD) ?_
    intro D2 hD2
    refine lc_fm (walk_list (xs := freshN.map V.str)) freshN (fun w => if w ∈ keys ps then none else some (V.str w)) (by rw [List.length_map]) (by rw [List.length_map, fresh_len]; decide) hD2 (fun _ s => SqL.of (s _ _ fD)) ?_ ?_
    · rintro i y w G1 G2 hi s ⟨rfl, hy⟩ Qy hq1
      have ey : y = .str w := by
        have hy : (freshN.map V.str)[i]? = some y := hy
        rw [List.getElem?_map, hi] at hy; exact (Option.some.inj hy).symm
      subst ey
      refine w_gname ⟨rfl, ?_⟩
      tm_at "vp"
      refine w_dinc (.inl ((s3'.trans s) _ _ ht2)) ?_
      rw [kv_isSome]
      by_cases z : w ∈ keys ps
      · rw [if_pos z] at hq1
        rw [decide_eq_true (show w ∈ ps.map (·.1) from z)]
        refine w_bl ?_
        exact hq1 _ (Same.refl _)
      · rw [if_neg z] at hq1
        rw [decide_eq_false (show ¬ w ∈ ps.map (·.1) from z)]
        refine w_bl ?_
        rw [if_pos (show (!false) = true from rfl)]
        tm_at "vp"
        exact hq1 _ (Same.refl _)
    intro H5 s5 _ hacc2
    have efr : (freshN.filterMap fun w => if w ∈ keys ps then none else some (V.str w)) = (freshN.filter fun w => !decide (w ∈ keys ps)).map V.str := by
      generalize freshN = l
      induction l with
      | nil => rfl
      | cons w r ih =>
        rw [List.filterMap_cons]
        by_cases z : w ∈ keys ps
        · rw [if_pos z, List.filter_cons_of_neg (by simpa using z), ih]
        · rw [if_neg z, List.filter_cons_of_pos (by simpa using z), List.map_cons, ih]
    rw [efr] at hacc2
    tm_at "vp"
    generalize hF : (freshN.filter fun w => !decide (w ∈ keys ps)) = F at *
    have hFl : F.length ≤ 16 := by rw [← hF, ← fresh_len]; exact List.length_filter_le _ _
    refine ⟨q, D2, ks.map V.str, F.map V.str, rfl, rfl, s5 _ _ fq, hacc2, sz_le (by rw [List.length_map, List.length_map]; omega), fun L hL => ?_⟩
    have s6 := s3'.trans (s5.trans (same_new hL (u := HO.lst (ks.map V.str ++ F.map V.str))))
    have fL : (upd H5 L (.lst (ks.map V.str ++ F.map V.str))) L = some (.lst ((ks ++ F).map V.str)) := by rw [List.map_append]; exact upd_same
    generalize upd H5 L (HO.lst (ks.map V.str ++ F.map V.str)) = H6 at *
    have s26 : Same H H6 := s2.trans s6
    have ht6 := s6 _ _ ht2
    clear s3 s5 s6 s3' fq fD hacc hacc2 hD2 hL hD hal hf ht2
    have hol : (ks ++ F).length ≤ 19 := by rw [List.length_append]; omega
    tm_at "vp"
    simp only [List.set_cons_zero, List.set_cons_succ]
    refine w_onL (SqL.of fL) ?_
    intro D3 hD3
    refine lc_dat K (walk_list (xs := (ks ++ F).map V.str)) (by rw [List.length_map]; omega) (fun i e => ∃ y, (ks ++ F)[i]? = some y ∧ e = numD (max 0 (g - getT ps y), y)) hD3 (fun _ s => SqL.of (s _ _ fL)) ?_ ?_ mono_gname
    · rintro i y G1 G2 hi s ⟨rfl, hy⟩ Qy hq1
      rw [List.length_map] at hi
      have ey : y = .str (ks ++ F)[i] := by
        have hy : ((ks ++ F).map V.str)[i]? = some y := hy
        rw [List.getElem?_map, List.getElem?_eq_getElem hi] at hy; exact (Option.some.inj hy).symm
      subst ey
      refine w_gname ⟨rfl, ?_⟩
      tm_at "vp"
      refine w_isD (s _ _ ht6) ?_
      tm_at "vp"
      refine w_dgetk (s _ _ ht6) ?_
      rw [kv_get]
      tm_at "vp"
      rename_i T2 hT2
      have em : ∀ z : Int, (if z > 0 then z else 0) = max 0 z := fun z => by split <;> omega
      rw [em]
      exact hq1 _ (numD (max 0 (g - getT ps (ks ++ F)[i]), (ks ++ F)[i])) _ (same_new hT2) (num_mk (SqT.of upd_same)) rfl ⟨_, List.getElem?_eq_getElem hi, rfl⟩
    intro accG ds H7 s7 _ haccG hdpG _ hdl hR
    have eds : ds = ((ks ++ F).map fun y => (max 0 (g - getT ps y), y)).map numD := by
      rw [List.map_map]
      exact ds_eq (by rw [hdl, List.length_map]) hR
    rw [eds] at hdpG
    clear hR hdl eds
    tm_at "vp"
    have hdpG : DpAll K H7 accG ((gapL g ps (ks ++ F)).map numD) := hdpG
    have g1 : 1 ≤ g := by omega
    have hFk : ∀ w ∈ F, w ∉ keys ps := fun w hw => by
      rw [← hF] at hw
      have := (List.mem_filter.mp hw).2
      intro z
      rw [decide_eq_true z] at this
      cases this
    have hFn : F.Nodup := by rw [← hF]; exact fresh_nd.sublist List.filter_sublist
    have hkn : (ks ++ F).Nodup := by
      rw [List.nodup_append]
      exact ⟨hperm.nodup_iff.mpr hb.tab.nd, hFn, fun a ha b hb' e => hFk b hb' (by rw [← e]; exact hperm.mem_iff.mp ha)⟩
    have hkm : ∀ w ∈ ks ++ F, isName w = true := fun w hw => by
      rcases List.mem_append.mp hw with h | h
      · obtain ⟨p, hp, e⟩ := List.mem_map.mp (hperm.mem_iff.mp h)
        rw [← e]; exact hb.nam p hp
      · rw [← hF] at h; exact fresh_nam w (List.mem_filter.mp h).1
    have np := needs_perm (x := x) hb g1 hperm hFk
    have h12 := fresh_many hl x
    rw [hF] at h12
    have gapm : ∀ q ∈ gapL g ps (ks ++ F), q.1 = max 0 (g - getT ps q.2) ∧ q.2 ∈ ks ++ F := fun q hq => by
      obtain ⟨y, hy, rfl⟩ := List.mem_map.mp hq
      exact ⟨rfl, hy⟩
    have gapk : (gapL g ps (ks ++ F)).map (·.2) = ks ++ F := by unfold gapL; rw [List.map_map]; exact List.map_id _
    have gapl : (gapL g ps (ks ++ F)).length ≤ 19 := by unfold gapL; rw [List.length_map]; exact hol
    generalize gapL g ps (ks ++ F) = gs at *
    have hxl := dps_len hdpG
    rw [List.length_map] at hxl
    refine w_onL (SqL.of haccG) ?_
    intro D4 hD4
    refine lc_fmd K (walk_list (xs := accG)) gs (fun q => if q.2 = x then none else some (numD q)) hxl.symm (by omega) (fun a' d' e => by by_cases z : a'.2 = x <;> simp [z] at e; subst e; rfl) hD4 (fun _ s => SqL.of (s _ _ haccG)) ?_ ?_
    · rintro i y q G1 G2 hi s ⟨rfl, hy⟩ Qy Qn hq1 hqn
      obtain ⟨q', bb, e1, rfl, hbb⟩ := nums_get hdpG hy
      rw [hi] at e1
      cases (Option.some.inj e1)
      refine w_gname ⟨rfl, ?_⟩
      tm_at "vp"
      refine w_ixT (sqt_same s hbb) (v := .str q.2) rfl ?_
      tm_at "vp"
      refine w_iten (fun h => ?_) (fun h => ?_)
      · tm_at "vp"
        exact hq1 _ _ _ (Same.refl _) (by rw [if_neg h]) (num_mk (sqt_same s hbb))
      · exact hqn _ (Same.refl _) (by rw [if_pos h])
    intro accN H8 s8 _ haccN hdpN
    have eN : (gs.filterMap fun q => if q.2 = x then none else some (numD q)) = (gs.filter fun q => !decide (q.2 = x)).map numD := fm_nums x gs
    rw [eN] at hdpN
    tm_at "vp"
    refine w_sortedN (SqL.of haccN) hdpN (Nat.lt_of_le_of_lt (List.length_filter_le _ _) (by omega)) ?_
    intro ys cs N hpc hasc hdpC hN
    have hdpC := dps_same (same_new hN (u := HO.lst ys)) hdpC
    have fN : (upd H8 N (.lst ys)) N = some (.lst ys) := upd_same
    have s9 := s26.trans (s7.trans (s8.trans (same_new hN (u := HO.lst ys))))
    generalize upd H8 N (HO.lst ys) = H9 at *
    clear hdpN haccN eN hdpG haccG s7 s8 hN hD3 hD4 fL ht6 s26
    have cnd : (cs.map (·.2)).Nodup := ((hpc.map (·.2)).nodup_iff).mpr ((gapk ▸ hkn : (gs.map (·.2)).Nodup).sublist (List.filter_sublist.map _))
    have cm : ∀ q ∈ cs, q.1 = max 0 (g - getT ps q.2) ∧ q.2 ∈ ks ++ F ∧ q.2 ≠ x := fun q hq => by
      obtain ⟨m1, m2⟩ := List.mem_filter.mp (hpc.mem_iff.mp hq)
      obtain ⟨h1, h2⟩ := gapm q m1
      exact ⟨h1, h2, fun z => by rw [decide_eq_true z] at m2; cases m2⟩
    have cl : cs.length ≤ 19 := by rw [hpc.length_eq]; exact Nat.le_trans (List.length_filter_le _ _) gapl
    have cp := (hpc.map (·.1)).trans np
    have ca : (cs.map (·.1)).Pairwise (· ≤ ·) := by rw [List.pairwise_map]; exact hasc
    have cl12 : 12 ≤ cs.length := by
      have := cp.length_eq
      rw [List.length_map, List.length_append, List.length_replicate] at this
      omega
    have hfull := ahead_full (m := (F.filter fun w => !decide (w = x)).length) hb.pos (by rw [eU]; exact U0) (by rw [eU]; omega) (by rw [eg]; exact cp) ca
    rw [eU] at hfull
    clear np h12 gapm gapk gapl hpc hasc cp
    have ysl : ys.length = cs.length := by rw [dps_len hdpC, List.length_map]
    tm_at "vp"
    simp only [List.set_cons_zero, List.set_cons_succ]
    refine w_onL (SqL.of fN) ?_
    intro D5 hD5
    refine lc_dat K (walk_list (xs := ys)) (by omega) (fun i e => ∃ q, cs[i]? = some q ∧ e = pairD (q.2, 0)) hD5 (fun _ s => SqL.of (s _ _ fN)) ?_ ?_ mono_gpair
    · rintro i y G1 G2 hi s ⟨rfl, hy⟩ Qy hq1
      obtain ⟨q', bb, e1, rfl, hbb⟩ := nums_get hdpC hy
      refine w_gtup (sqt_same s hbb) rfl ?_
      tm_at "vp"
      refine ⟨rfl, ?_⟩
      tm_at "vp"
      rename_i T3 hT3
      exact hq1 _ _ _ (same_new hT3) (pair_mk (SqT.of upd_same)) rfl ⟨q', e1, rfl⟩
    intro accU ds H10 s10 _ haccU hdpU _ hdl hR
    have eds : ds = (cs.map fun q => (q.2, (0 : Int))).map pairD := by
      rw [List.map_map]
      exact ds_eq (by rw [hdl, ysl]) hR
    rw [eds, zero_zip] at hdpU
    clear hR hdl eds
    tm_at "vp"
    refine w_dictP (SqL.of haccU) hdpU (by rw [keys_zip (by simp)]; exact cnd) ?_
    intro u hu
    have fu : (upd H10 u (.dK (kvOf ((cs.map (·.2)).zip (List.replicate (cs.map (·.1)).length 0))))) u = some (.dK (kvOf ((cs.map (·.2)).zip (List.replicate (cs.map (·.1)).length 0)))) := upd_same
    have s11 := same_new hu (u := HO.dK (kvOf ((cs.map (·.2)).zip (List.replicate (cs.map (·.1)).length 0))))
    generalize upd H10 u (.dK (kvOf ((cs.map (·.2)).zip (List.replicate (cs.map (·.1)).length 0)))) = H11 at *
    have s0 := s9.trans s10
    have fN10 := s10 _ _ fN
    have hdpC10 := dps_same s10 hdpC
    clear hdpU haccU hD5 s10 fN hdpC s9
    tm_at "vp"
    simp only [List.set_cons_zero, List.set_cons_succ]
    refine w_onL (SqL.of (s11 _ _ fN10)) ?_
    have cfl : (cs.map (·.1)).length = cs.length := List.length_map _
    have csl : (cs.map (·.2)).length = cs.length := List.length_map _
    refine for_go (walk_list (xs := ys)) (fun i σ H' => ∃ vs left u8 u10 u13 u15 u16, σ = [some (.int c), some v, some (.int d), some (.str x), some (.ref t), some (.int left), some (.int g), some (.ref D), u8, some (.ref L), u10, some (.ref D3), some (.ref N), u13, some (.ref u), u15, u16] ∧ Same H10 H' ∧ H' u = some (.dK (kvOf ((cs.map (·.2)).zip vs))) ∧ UsedA d U (cs.map (·.1)) i vs left) ⟨_, U, _, _, _, _, _, rfl, s11, fu, UsedA.init d0 U0⟩ (fun i σ H' _ ⟨_, _, _, _, _, _, _, _, s, _⟩ => SqL.of (s _ _ fN10)) ?_ ?_
    · rintro i y σ G1 G2 hi ⟨vs, left, u8, u10, u13, u15, u16, rfl, s12, fu12, hA⟩ ⟨rfl, hy⟩
      obtain ⟨q', bb, e1, rfl, hbb⟩ := nums_get hdpC10 hy
      have ei : (cs.map (·.1))[i]? = some q'.1 := by rw [List.getElem?_map, e1]; rfl
      have ei2 : (cs.map (·.2))[i]? = some q'.2 := by rw [List.getElem?_map, e1]; rfl
      have hst := hA.step ei (by rw [(cm q' (List.mem_of_getElem? e1)).1]; omega)
      have hlen := hA.len
      refine w_gtup (sqt_same s12 hbb) rfl ?_
      tm_at "vp"
      simp only [List.set_cons_zero, List.set_cons_succ]
      have emn : (if left < d then left else d) = min d left := by split <;> omega
      rw [emn]
      refine w_ited (fun h => ?_) (fun h => ?_)
      · tm_at "vp"
        refine w_dputk fu12 (sz_lt (by rw [kv_len, List.length_zip]; omega)) ?_
        tm_at "vp"
        simp only [List.set_cons_zero, List.set_cons_succ]
        refine ⟨vs.set i q'.1, _, _, _, _, _, _, rfl, same_mut s12 hu, ?_, hst.1 h⟩
        rw [kv_put, zip_put cnd (by omega) ei2]
        exact upd_same
      · tm_at "vp"
        exact ⟨vs, _, _, _, _, _, _, rfl, s12, fu12, hst.2 h⟩
    rintro σ H12 ⟨vs, left, u8, u10, u13, u15, u16, rfl, s12, fu12, hA⟩
    have hB := UsedA.done (by rw [cfl, ← ysl]; exact hA)
    clear hA fu s11
    tm_at "vp"
    refine w_onL (SqL.of (s12 _ _ fN10)) ?_
    refine for_go (walk_list (xs := ys)) (fun i σ H' => ∃ vs left u8 u10 u13 u15 u16, σ = [some (.int c), some v, some (.int d), some (.str x), some (.ref t), some (.int left), some (.int g), some (.ref D), u8, some (.ref L), u10, some (.ref D3), some (.ref N), u13, some (.ref u), u15, u16] ∧ Same H10 H' ∧ H' u = some (.dK (kvOf ((cs.map (·.2)).zip vs))) ∧ UsedB d U (cs.map (·.1)) (grd d (U, 0) (cs.map (·.1))).2 i vs left) ⟨vs, left, _, _, _, _, _, rfl, s12, fu12, hB⟩ (fun i σ H' _ ⟨_, _, _, _, _, _, _, _, s, _⟩ => SqL.of (s _ _ fN10)) ?_ ?_
    · clear hB s12 fu12
      rintro i y σ G1 G2 hi ⟨vs, left, u8, u10, u13, u15, u16, rfl, s12, fu12, hB⟩ ⟨rfl, hy⟩
      obtain ⟨q', bb, e1, rfl, hbb⟩ := nums_get hdpC10 hy
      have ei2 : (cs.map (·.2))[i]? = some q'.2 := by rw [List.getElem?_map, e1]; rfl
      have hlen := hB.len
      have hiv : i < vs.length := by omega
      have ev : vs[i]? = some vs[i] := List.getElem?_eq_getElem hiv
      generalize vs[i] = w at ev
      have hst := hB.step ev
      have hzg := zip_get cnd (by omega) ei2 ev
      have hin : q'.2 ∈ ((cs.map (·.2)).zip vs).map (·.1) := by
        show _ ∈ keys _
        rw [keys_zip (by omega)]
        exact List.mem_of_getElem? ei2
      refine w_gtup (sqt_same s12 hbb) rfl ?_
      tm_at "vp"
      simp only [List.set_cons_zero, List.set_cons_succ]
      refine w_dgetc fu12 (kv_some hin) ?_
      rw [hzg]
      tm_at "vp"
      simp only [List.set_cons_zero, List.set_cons_succ]
      have emn : (if d - w < left then d - w else left) = min left (d - w) := by split <;> omega
      rw [emn]
      refine w_dgetc fu12 (kv_some hin) ?_
      rw [hzg]
      tm_at "vp"
      refine w_dputk fu12 (sz_lt (by rw [kv_len, List.length_zip]; omega)) ?_
      tm_at "vp"
      simp only [List.set_cons_zero, List.set_cons_succ]
      refine ⟨_, _, _, _, _, _, _, rfl, same_mut s12 hu, ?_, hst⟩
      rw [kv_put, zip_put cnd (by omega) ei2]
      exact upd_same
    clear hB s12 fu12
    rintro σ H13 ⟨vs, left, u8, u10, u13, u15, u16, rfl, s13, fu13, hB⟩
    have hU' := UsedB.done (by rw [cfl, ← ysl]; exact hB) (by
      rw [cfl, ← eU]
      exact Int.mul_le_mul_of_nonneg_left (by omega) d0)
    have hcnt := hB.cnt
    have hbnd := hB.bnd
    have hlen : vs.length = cs.length := by rw [hB.len, cfl]
    clear hB fN10 hdpC10
    obtain ⟨tu, etu⟩ : ∃ tu, (cs.map (·.2)).zip vs = tu := ⟨_, rfl⟩
    rw [etu] at fu13
    have tuk : keys tu = cs.map (·.2) := by rw [← etu]; exact keys_zip (by rw [csl, hlen])
    have tun : (keys tu).Nodup := by rw [tuk]; exact cnd
    have tul : tu.length < 64 := by
      have := congrArg List.length tuk
      unfold keys at this
      rw [List.length_map, csl] at this
      omega
    have tug : ∀ (i : Nat) (q : Int × Str) (w : Int), cs[i]? = some q → vs[i]? = some w → getT tu q.2 = w := fun i q w e1 e2 => by
      rw [← etu]
      exact zip_get cnd (by rw [csl, hlen]) (by rw [List.getElem?_map, e1]; rfl) e2
    have tus : sumC tu = U := by rw [← etu, sum_zip (by rw [csl, hlen]), hU']
    clear hU' etu
    tm_at "vp"
    refine w_sortedDk fu13 tul ?_
    intro zs Z hzp hzs hZ
    have zasc := sorted_asc hzs (hzp.nodup_iff.mpr tun)
    have fZ : (upd H13 Z (.lst (zs.map V.str))) Z = some (.lst (zs.map V.str)) := upd_same
    have s14 := same_new hZ (u := HO.lst (zs.map V.str))
    generalize upd H13 Z (.lst (zs.map V.str)) = H14 at *
    tm_at "vp"
    refine w_sortedDk (s14 _ _ fu13) tul ?_
    intro zs2 Z2 hzp2 hzs2 hZ2
    have zasc2 := sorted_asc hzs2 (hzp2.nodup_iff.mpr tun)
    have ez : zs2 = zs := List.Perm.eq_of_pairwise (le := ltS) (fun a b _ _ h1 h2 => absurd h2 (ltS_asymm h1)) zasc2 zasc (hzp2.trans hzp.symm)
    subst ez
    have fZ2 : (upd H14 Z2 (.lst (zs2.map V.str))) Z2 = some (.lst (zs2.map V.str)) := upd_same
    have s15 := same_new hZ2 (u := HO.lst (zs2.map V.str))
    have fZ := s15 _ _ fZ
    have fu15 := s15 _ _ (s14 _ _ fu13)
    generalize upd H14 Z2 (.lst (zs2.map V.str)) = H15 at *
    have zl : zs2.length = cs.length := by
      have := hzp2.length_eq
      rw [List.length_map] at this
      have h2 := congrArg List.length tuk
      unfold keys at h2
      rw [List.length_map, csl] at h2
      omega
    refine w_onL (SqL.of fZ2) ?_
    intro D6 hD6
    refine lc_map (walk_list (xs := zs2.map V.str)) (by rw [List.length_map]; omega) (fun i y => ∃ z, zs2[i]? = some z ∧ y = .int (getT tu z)) hD6 (fun _ s => SqL.of (s _ _ fZ2)) ?_ ?_ mono_gname
    · rintro i y G1 G2 hi s ⟨rfl, hy⟩ Qy hq1
      rw [List.length_map] at hi
      have ey : y = .str zs2[i] := by
        have hy : (zs2.map V.str)[i]? = some y := hy
        rw [List.getElem?_map, List.getElem?_eq_getElem hi] at hy; exact (Option.some.inj hy).symm
      subst ey
      refine w_gname ⟨rfl, ?_⟩
      tm_at "vp"
      refine w_dgetc (s _ _ fu15) (kv_some (show _ ∈ tu.map (·.1) from hzp2.mem_iff.mp (List.getElem_mem hi))) ?_
      exact hq1 _ _ (Same.refl _) ⟨_, List.getElem?_eq_getElem hi, rfl⟩
    intro accV H16 s16 _ haccV hlV hfV
    have eV : accV = (zs2.map (getT tu)).map V.int := by
      rw [List.map_map]
      exact acc_map (by rw [hlV, List.length_map]) hfV
    rw [eV] at haccV
    tm_at "vp"
    have s016 := s0.trans (s13.trans (s14.trans (s15.trans s16)))
    have zget : ∀ z ∈ zs2, ∃ (i : Nat) (q : Int × Str) (w : Int), cs[i]? = some q ∧ vs[i]? = some w ∧ z = q.2 ∧ getT tu z = w := fun z hz => by
      have hz2 : z ∈ keys tu := hzp2.mem_iff.mp hz
      rw [tuk] at hz2
      obtain ⟨q, hq2, rfl⟩ := List.mem_map.mp hz2
      obtain ⟨i, hi⟩ := List.mem_iff_getElem?.mp hq2
      obtain ⟨hil, _⟩ := List.getElem?_eq_some_iff.mp hi
      have hv2 : vs[i]? = some vs[i] := List.getElem?_eq_getElem (by omega)
      exact ⟨i, q, vs[i], hi, hv2, rfl, tug i q _ hi hv2⟩
    have zb : ∀ w ∈ zs2.map (getT tu), 0 ≤ w ∧ w ≤ d := fun w hw => by
      obtain ⟨z, hz, rfl⟩ := List.mem_map.mp hw
      obtain ⟨i, q, w, e1, e2, _, e4⟩ := zget z hz
      rw [e4]; exact hbnd w (List.mem_of_getElem? e2)
    have znd : zs2.Nodup := hzp2.nodup_iff.mpr tun
    have zsum : (zs2.map (getT tu)).sum = U := by
      have h1 := sumC_perm (tabF_perm hzp2 tun)
      rw [tus] at h1
      rw [← h1]
      unfold sumC tabF
      rw [List.map_map]; rfl
    refine ⟨v, ps, Z, D6, zs2, zs2.map (getT tu), rfl, dp_same s016 hv, hb, SqL.of (s16 _ _ fZ), SqL.of haccV, fun z hz => ?_, (List.length_map _).symm, fun w hw => (zb w hw).1, by omega, fun w qs H17 s17 hw hlo => ?_⟩
    · obtain ⟨i, q, w, e1, e2, e3, _⟩ := zget z hz
      rw [e3]
      exact hkm _ (cm q (List.mem_of_getElem? e1)).2.1
    have hfit := load_fit (c := c) (d := d) hlo znd zb d0 (by rw [zsum, eU]) rfl
    refine k w qs H17 (s016.trans s17) hw hlo.ok (by have := hlo.len; omega) hfit (Int.le_antisymm (ahead_le hb hlo.ok hfit rfl) (Int.le_trans hfull (Int.le_trans hcnt ?_)))
    have cget : ∀ n, n ∈ zs2 → cntC (zs2.zip (zs2.map (getT tu))) n = getT tu n := fun n hn => by
      obtain ⟨i, hi⟩ := List.mem_iff_getElem?.mp hn
      exact cnt_zip_get (List.length_map _).symm znd i n _ hi (by rw [List.getElem?_map, hi]; rfl)
    refine raised_ahead (g := g) hlo.ok hlen cnd eg g1 (fun q hq => by rw [(cm q hq).1]; omega) (fun i q w e1 e2 => ?_) ?_
    · have hm : q.2 ∈ zs2 := hzp2.mem_iff.mpr (by
        show q.2 ∈ keys tu
        rw [tuk]; exact List.mem_map.mpr ⟨q, List.mem_of_getElem? e1, rfl⟩)
      rw [hlo.get, cget _ hm, tug i q w e1 e2]
    · have hm : x ∉ zs2 := fun z => by
        obtain ⟨i, q, w, e1, _, e3, _⟩ := zget x z
        exact (cm q (List.mem_of_getElem? e1)).2.2 e3.symm
      rw [hlo.get, (cnt_zip d0 zb znd x).2 hm]; omega
theorem ok__law_pairs_right {P : Program} {w : World} {K : PySem.W.Frag} {mg : Str → Option Value} {base : Heap} (fr : Fre mg) (cl_Summary : ClsF K mg "Summary" ["capacity", "counts", "__bool__"]) (et_Summary___init___0 : ∀ H : Hp, SqT K H (dflA "Summary" "__init__" 0 K) []) (D : Dfd K mg "_law_pairs_right" s__law_pairs_right)
    (h__law_sum : Has P w K mg base CX0 1 "_law_sum" s__law_sum ["_law_bag"] (sp__law_sum K))
    (h_surely_more : Has P w K mg base CX0 5 "surely_more" s_surely_more ["summary", "size", "one", "other"] (sp_surely_more K))
    (h__law_held : Has P w K mg base CX0 1 "_law_held" s__law_held ["_law_bag"] (sp__law_held K))
    (h__law_first_dealt : Has P w K mg base CX0 1 "_law_first_dealt" s__law_first_dealt ["_law_many", "_law_left", "_law_deep"] (sp__law_first_dealt K))
    (h__law_loaded : Has P w K mg base CX0 2 "_law_loaded" s__law_loaded ["_law_held_here", "_law_words_here", "_law_units"] (sp__law_loaded K))
    (h_fits : Has P w K mg base CX0 6 "fits" s_fits ["summary", "size", "counts"] (sp_fits K)) : Has P w K mg base CX0 7 "_law_pairs_right" s__law_pairs_right ["_law_board", "_law_held_here", "_law_deep", "_law_some", "_law_words_here"] (sp__law_pairs_right K) := by
  refine D.has sc__law_pairs_right (fun vs H Q E h => ?_) (fun cdv A outer s H vs Q E hr hg h => ?_)
  · obtain ⟨b, v, c, d, ps, S, a, xs, bs, ws, rfl, _⟩ := h; rfl
  · obtain ⟨b, v, c, d, ps, S, a, xs, bs, ws, rfl, ho, hv, c3, d0, d3, hd, hS, hx, hbl, hbs, ha, hal, hwn, hwq, k⟩ := h
    have nd := sc__law_pairs_right.nd
    refine ⟨_, PSs.nox (pss_cons (ps_set (i := 5) nd rfl (Or.inl rfl) (pe_op op_add (pe_fn h__law_sum pb__law_sum (hr.mono (by decide)) hg rfl pass0 (pa_cons (pv 1) pa_nil)) (pe_op op_mul (pv 2) (pe_op op_add (k_fld K (pv 0) rfl) pe_int))))
      (pss_cons (ps_for PassesOwn.never rfl (k_iList K (pv 4)) (pg_name (i := 6) nd rfl (Or.inr rfl))
        (pss_one (ps_for PassesOwn.never rfl (k_iList K (pv 4)) (pg_name (i := 7) nd rfl (Or.inr rfl))
        (pss_cons (ps_set (i := 8) nd rfl (Or.inl rfl) (pe_fn h_surely_more pb_surely_more (hr.mono (by decide)) hg rfl pass0 (pa_cons (pv 0) (pa_cons (pv 5) (pa_cons (pv 6) (pa_cons (pv 7) pa_nil))))))
      (pss_cons (ps_setLc (i := 9) (own := [("_law_bag", 10)]) (g := gName 10) (tt := tYes) rfl nd rfl rfl (sw_true rfl rfl rfl (by decide +kernel)) (k_iList K (pv 3)) (blkOk_by (own := [("_law_bag", 10)]) (N := N__law_pairs_right) (sc := defScope s__law_pairs_right) (by decide +kernel)) (fun _ _ _ _ _ => (pg_name (i := 10) nd rfl (Or.inl rfl))) (fun _ _ _ _ _ => pts_nil) (fun _ _ _ _ _ => (pe_fn h__law_held pb__law_held (hr.mono (by decide)) hg rfl pass0 (pa_cons (pv 10) pa_nil))))
      (pss_cons (ps_setLc (i := 11) (own := [("_law_table", 12)]) (g := gName 12) (tt := tYes) rfl nd rfl rfl (sw_true rfl rfl rfl (by decide +kernel)) (k_iList K (pv 9)) (blkOk_by (own := [("_law_table", 12)]) (N := N__law_pairs_right) (sc := defScope s__law_pairs_right) (by decide +kernel)) (fun _ _ _ _ _ => (pg_name (i := 12) nd rfl (Or.inl rfl))) (fun _ _ _ _ _ => pts_nil) (fun _ _ _ _ _ => (pe_cmpR op_gt (pe_dget2 (hu_of hr) (pv 12) (pv 6) pe_int ⟨rfl, rfl, rfl, rfl⟩) (pe_dget2 (hu_of hr) (pv 12) (pv 7) pe_int ⟨rfl, rfl, rfl, rfl⟩) (nomark _))))
      (pss_cons (ps_set (i := 13) nd rfl (Or.inl rfl) (pe_lst (pa_cons pe_str (pa_cons pe_str (pa_cons pe_str (pa_cons pe_str pa_nil))))))
      (pss_cons (ps_set (i := 14) nd rfl (Or.inl rfl) (pe_op op_cat (pe_lst (pa_cons (pv 7) pa_nil)) (pe_lc (own := [("_law_each", 15)]) (g := gName 15) rfl nd (k_iList K (pv 13)) (blkOk_by (own := [("_law_each", 15)]) (N := N__law_pairs_right) (sc := defScope s__law_pairs_right) (by decide +kernel)) (fun _ _ _ _ _ => (pg_name (i := 15) nd rfl (Or.inl rfl))) (fun _ _ _ _ _ => (pts_one (pt_cmpR (k_notInSeq K) (pv 15) (pe_lst (pa_cons (pv 6) (pa_cons (pv 7) pa_nil))) rfl))) (fun _ _ _ _ _ => (pv 15)))))
      (pss_cons (ps_set (i := 16) nd rfl (Or.inl rfl) (pe_fn h__law_first_dealt pb__law_first_dealt (hr.mono (by decide)) hg rfl pass0 (pa_cons (pe_callB (k_len K) rfl fr.len_ (by decide +kernel) (pa_cons (pv 14) pa_nil)) (pa_cons (pe_op op_mul (pv 2) (pe_op op_add (k_fld K (pv 0) rfl) pe_int)) (pa_cons (pv 2) pa_nil)))))
      (pss_cons (ps_set (i := 17) nd rfl (Or.inl rfl) (pe_fn h__law_loaded pb__law_loaded (hr.mono (by decide)) hg rfl pass0 (pa_cons (pv 1) (pa_cons (pv 14) (pa_cons (pv 16) pa_nil)))))
      (pss_cons (ps_if (PW.pt (pw_and (pt_cmpR op_ne (pv 6) (pv 7) (nomark _)) (pw_and1 (pt_not (pt_val (pe_fn h_fits pb_fits (hr.mono (by decide)) hg rfl pass0 (pa_cons (pv 0) (pa_cons (pv 5) (pa_cons (pv 17) pa_nil))))))))) (pss_one (ps_ret pe_bl)) pss_nil)
      (pss_cons (ps_set (i := 18) nd rfl (Or.inl rfl) (pe_cmpR op_gt (pe_dget2 (hu_of hr) (pe_fn h__law_held pb__law_held (hr.mono (by decide)) hg rfl pass0 (pa_cons (pv 17) pa_nil)) (pv 6) pe_int ⟨rfl, rfl, rfl, rfl⟩) (pe_dget2 (hu_of hr) (pe_fn h__law_held pb__law_held (hr.mono (by decide)) hg rfl pass0 (pa_cons (pv 17) pa_nil)) (pv 7) pe_int ⟨rfl, rfl, rfl, rfl⟩) (nomark _)))
      (pss_one (ps_if (PW.pt (pw_or (PW.pt (pw_and (pt_val (pv 8)) (pw_and1 (pt_not (pt_val (pe_callB (k_all K rfl) rfl fr.all_ (by decide +kernel) (pa_cons (pv 11) pa_nil))))))) (pw_or1 (pt_cmpR op_ne (pv 8) (pe_and (pe_cmpR op_ne (pv 6) (pv 7) (nomark _)) (pe_one (pv 18))) (nomark _))))) (pss_one (ps_ret pe_bl)) pss_nil))))))))))))))
      (pss_one (ps_ret pe_bl)))), ?_⟩
    try dsimp only [cxOf]
    have est : ∀ a0 a1 a2 a3 a4 : V, L2.start N__law_pairs_right [a0, a1, a2, a3, a4] = [some a0, some a1, some a2, some a3, some a4, none, none, none, none, none, none, none, none, none, none, none, none, none, none] := fun _ _ _ _ _ => rfl
    simp only [est]
    clear est
    have hxl := dps_len hx
    rw [List.length_map] at hxl
    tm_at "vp"
    refine ⟨v, ps, rfl, hd, by have := hv.len; omega, fun H1 s1 => ?_⟩
    tm_at "vp"
    refine w_sumCap (c := c) (ps := ps) cl_Summary (sum_same s1 ho) ?_
    tm_at "vp"
    obtain ⟨N, eN⟩ : ∃ N, sumC ps + d * (c + 1) = N := ⟨_, rfl⟩
    rw [eN]
    simp only [eN] at hbs
    have hlen := hv.len
    have c1 := hv.c1
    refine w_onL (s1.seq ha) ?_
    refine for_go (walk_list (xs := ws.map V.str)) (fun i σ H' => ∃ u6 u7 u8 u9 u10 u11 u12 u13 u14 u15 u16 u17 u18, σ = [some b, some v, some (.int d), some (.ref S), some (.ref a), some (.int N), u6, u7, u8, u9, u10, u11, u12, u13, u14, u15, u16, u17, u18] ∧ Same H H') ⟨_, _, _, _, _, _, _, _, _, _, _, _, _, rfl, s1⟩ (fun i σ H' _ ⟨_, _, _, _, _, _, _, _, _, _, _, _, _, _, s⟩ => s.seq ha) ?_ ?_
    rotate_left
    · rintro σ H2 ⟨u6, u7, u8, u9, u10, u11, u12, u13, u14, u15, u16, u17, u18, rfl, s2⟩
      dsimp only
      tm_at "vp"
      exact k _ s2
    rintro i y σ Hb H2 hi ⟨u6, u7, u8, u9, u10, u11, u12, u13, u14, u15, u16, u17, u18, rfl, s2⟩ ⟨rfl, hy⟩
    obtain ⟨x, ex, rfl⟩ : ∃ x, ws[i]? = some x ∧ y = .str x := by
      have hy : (ws.map V.str)[i]? = some y := hy
      rw [List.getElem?_map] at hy
      cases z : ws[i]? with
      | none => rw [z] at hy; cases hy
      | some x => rw [z] at hy; exact ⟨x, rfl, (Option.some.inj hy).symm⟩
    have hxm := List.mem_of_getElem? ex
    refine w_gname ?_
    simp only [List.set_cons_zero, List.set_cons_succ]
    tm_at "vp"
    refine w_onL (s2.seq ha) ?_
    refine for_go (walk_list (xs := ws.map V.str)) (fun i σ H' => ∃ u7 u8 u9 u10 u11 u12 u13 u14 u15 u16 u17 u18, σ = [some b, some v, some (.int d), some (.ref S), some (.ref a), some (.int N), some (.str x), u7, u8, u9, u10, u11, u12, u13, u14, u15, u16, u17, u18] ∧ Same H H') ⟨_, _, _, _, _, _, _, _, _, _, _, _, rfl, s2⟩ (fun i σ H' _ ⟨_, _, _, _, _, _, _, _, _, _, _, _, _, s⟩ => s.seq ha) ?_ ?_
    rotate_left
    · rintro σ H3 ⟨u7, u8, u9, u10, u11, u12, u13, u14, u15, u16, u17, u18, rfl, s3⟩
      exact ⟨_, _, _, _, _, _, _, _, _, _, _, _, _, rfl, s3⟩
    clear u6 u7 u8 u9 u10 u11 u12 u13 u14 u15 u16 u17 u18 s2 hi ex
    rintro i' y' σ Hb' H3 hi ⟨u7, u8, u9, u10, u11, u12, u13, u14, u15, u16, u17, u18, rfl, s3⟩ ⟨rfl, hy'⟩
    obtain ⟨y, ey, rfl⟩ : ∃ y, ws[i']? = some y ∧ y' = .str y := by
      have hy : (ws.map V.str)[i']? = some y' := hy'
      rw [List.getElem?_map] at hy
      cases z : ws[i']? with
      | none => rw [z] at hy; cases hy
      | some x => rw [z] at hy; exact ⟨x, rfl, (Option.some.inj hy).symm⟩
    have hym := List.mem_of_getElem? ey
    refine w_gname ?_
    simp only [List.set_cons_zero, List.set_cons_succ]
    tm_at "vp"
    refine ⟨b, c, ps, _, d, x, y, rfl, sum_same s3 ho, hv, eN.symm, d0, hwn x hxm, hwn y hym, fun H4 s4 => ?_⟩
    have s04 := s3.trans s4
    tm_at "vp"
    refine w_onL (s04.seq hS) ?_
    intro D1 hD1
    refine lc_dks (walk_list (xs := xs)) (by omega) (fun i t => bs[i]? = some t) hD1 (fun _ s => (s04.trans s).seq hS) ?_ ?_ mono_gname
    · rintro i y2 G1 G2 hi s ⟨rfl, hy2⟩ Qy hq
      obtain ⟨e, e1, e2⟩ := dps_get hx hy2
      rw [List.getElem?_map] at e1
      cases z : bs[i]? with
      | none => rw [z] at e1; cases e1
      | some t =>
        rw [z] at e1
        cases Option.some.inj e1
        have hq3 := hbs t (List.mem_of_getElem? z)
        refine w_gname ⟨rfl, ?_⟩
        tm_at "vp"
        exact ⟨y2, t, rfl, dp_same (s04.trans s) e2, hq3.2.1.tab.nd, by omega, fun l G3 _ s3 hl => hq l t _ s3 hl z⟩
    intro accT H5 s5 haccT hlT hfT
    tm_at "vp"
    refine w_onL (SqL.of haccT) ?_
    intro D2 hD2
    refine lc_map (walk_list (xs := accT)) (by omega) (fun i z => ∃ t, bs[i]? = some t ∧ z = .bl (decide (getT t y < getT t x))) hD2 (fun _ s => SqL.of (s _ _ haccT)) ?_ ?_ mono_gname
    · rintro i y2 G1 G2 hi s ⟨rfl, hy2⟩ Qy hq
      obtain ⟨l, t, rfl, hl, ht⟩ := hfT i y2 hy2
      refine w_gname ⟨rfl, ?_⟩
      tm_at "vp"
      refine w_isD (s _ _ hl) ?_
      tm_at "vp"
      refine w_dgetk (s _ _ hl) ?_
      rw [kv_get]
      tm_at "vp"
      refine w_isD (s _ _ hl) ?_
      tm_at "vp"
      refine w_dgetk (s _ _ hl) ?_
      rw [kv_get]
      tm_at "vp"
      exact hq _ _ (Same.refl _) ⟨t, ht, rfl⟩
    intro accM H6 s6 _ haccM hlM hfM
    obtain ⟨ms, ems, hms⟩ : ∃ ms : List Bool, accM = ms.map V.bl ∧ ∀ (i : Nat) (m : Bool), ms[i]? = some m → ∃ t, bs[i]? = some t ∧ m = decide (getT t y < getT t x) := by
      refine ⟨bs.map fun t => decide (getT t y < getT t x), ?_, fun i m e => ?_⟩
      · rw [List.map_map]
        exact acc_map (by omega) hfM
      · rw [List.getElem?_map] at e
        cases z : bs[i]? with
        | none => rw [z] at e; cases e
        | some t => rw [z] at e; exact ⟨t, rfl, (Option.some.inj e).symm⟩
    rw [ems] at haccM
    clear hfM hlM hfT hlT haccT hD1 hD2 ems
    tm_at "vp"
    rename_i L1 hL1 L2 hL2
    have s7 := (same_new hL1 (u := HO.lst [V.str "qa", .str "qb", .str "qc", .str "qd"])).trans (same_new hL2 (u := HO.lst [V.str y]))
    have fL1 := hp_new (@upd_same H6 L1 (HO.lst [V.str "qa", .str "qb", .str "qc", .str "qd"])) hL2 (u := HO.lst [V.str y])
    have fL2 := @upd_same (upd H6 L1 (HO.lst [V.str "qa", .str "qb", .str "qc", .str "qd"])) L2 (HO.lst [V.str y])
    have haM := s7 _ _ haccM
    generalize upd (upd H6 L1 (HO.lst [V.str "qa", .str "qb", .str "qc", .str "qd"])) L2 (HO.lst [V.str y]) = H7 at *
    have s07 := s04.trans (s5.trans (s6.trans s7))
    have fL1 : H7 L1 = some (.lst (qds.map V.str)) := fL1
    clear s3 s4 s04 s5 s6 s7 hL1 hL2 haccM
    simp only [List.set_cons_zero, List.set_cons_succ]
    refine w_onL (SqL.of fL1) ?_
    intro D3 hD3
    refine lc_fm (walk_list (xs := qds.map V.str)) qds (fun w => if w ∈ [x, y] then none else some (V.str w)) (by rw [List.length_map]) (by decide +kernel) hD3 (fun _ s => SqL.of (s _ _ fL1)) ?_ ?_
    · rintro i z w G1 G2 hi s ⟨rfl, hz⟩ Qy hq1
      have ez : z = .str w := by
        have hz : (qds.map V.str)[i]? = some z := hz
        rw [List.getElem?_map, hi] at hz; exact (Option.some.inj hz).symm
      subst ez
      refine w_gname ⟨rfl, ?_⟩
      tm_at "vp"
      rename_i L3 hL3
      refine ⟨L3, _, rfl, .inl (SqL.of upd_same), rfl, flat_strs [x, y], ?_⟩
      rw [show [V.str x, .str y] = [x, y].map V.str from rfl, inV_str]
      have s3 := same_new hL3 (u := HO.lst [V.str x, .str y])
      tm_at "vp"
      by_cases m : w ∈ [x, y]
      · rw [if_pos m] at hq1
        rw [decide_eq_true m]
        exact hq1 _ s3
      · rw [if_neg m] at hq1
        rw [decide_eq_false m, if_pos (show (if true = true then !false else false) = true from rfl)]
        tm_at "vp"
        exact hq1 _ s3
    intro H8 s8 _ haccF
    have efr : (qds.filterMap fun w => if w ∈ [x, y] then none else some (V.str w)) = (qds.filter fun w => !decide (w ∈ [x, y])).map V.str := by
      generalize qds = l
      induction l with
      | nil => rfl
      | cons w r ih =>
        rw [List.filterMap_cons]
        by_cases z : w ∈ [x, y]
        · rw [if_pos z, List.filter_cons_of_neg (by rw [decide_eq_true z]; decide), ih]
        · rw [if_neg z, List.filter_cons_of_pos (by rw [decide_eq_false z]; rfl), List.map_cons, ih]
    rw [efr] at haccF
    have hm3 := qd_many fun q1 q2 => hwq x hxm y hym q1 q2
    have hFm : ∀ w ∈ qds.filter fun w => !decide (w ∈ [x, y]), w ∈ qds ∧ w ≠ x ∧ w ≠ y := fun w hw => by
      obtain ⟨m1, m2⟩ := List.mem_filter.mp hw
      have m3 : w ∉ [x, y] := fun z => by rw [decide_eq_true z] at m2; cases m2
      exact ⟨m1, fun z => m3 (by rw [z]; exact List.mem_cons_self), fun z => m3 (by rw [z]; simp)⟩
    have hFn : (qds.filter fun w => !decide (w ∈ [x, y])).Nodup := qds_nd.sublist List.filter_sublist
    have hFl : (qds.filter fun w => !decide (w ∈ [x, y])).length ≤ 4 := List.length_filter_le _ _
    generalize (qds.filter fun w => !decide (w ∈ [x, y])) = F at *
    tm_at "vp"
    refine w_cat (s8 _ _ fL2) haccF (sz_le (by rw [List.length_map]; show 1 + F.length ≤ _; omega)) ?_
    intro L4 hL4
    have fL4 : (upd H8 L4 (.lst ([V.str y] ++ F.map V.str))) L4 = some (.lst ((y :: F).map V.str)) := upd_same
    have s09 := s07.trans (s8.trans (same_new hL4 (u := HO.lst ([V.str y] ++ F.map V.str))))
    have haM := (s8.trans (same_new hL4 (u := HO.lst ([V.str y] ++ F.map V.str)))) _ _ haM
    generalize upd H8 L4 (.lst ([V.str y] ++ F.map V.str)) = H9 at *
    clear s07 s8 hL4 haccF fL1 fL2 hD3
    tm_at "vp"
    simp only [List.set_cons_zero, List.set_cons_succ]
    refine w_lenL (SqL.of fL4) ?_
    tm_at "vp"
    refine w_sumCap (c := c) (ps := ps) cl_Summary (sum_same s09 ho) ?_
    tm_at "vp"
    have U0 : 0 ≤ d * (c + 1) := Int.mul_nonneg d0 (by omega)
    have U1 : d * (c + 1) ≤ d * (((y :: F).length : Nat) : Int) := Int.mul_le_mul_of_nonneg_left (by rw [List.length_cons]; omega) d0
    have U2 : d ≤ d * (c + 1) := by
      have := Int.mul_le_mul_of_nonneg_left (show (1 : Int) ≤ c + 1 by omega) d0
      omega
    rw [List.length_map]
    refine ⟨(y :: F).length, d * (c + 1), d, rfl, by rw [List.length_cons]; omega, by rw [List.length_cons]; omega, d0, U0, U1, fun L5 us H10 _ s10 hL5 hul hub husum hu0 => ?_⟩
    have hu0 : us[0]? = some d := by rw [hu0]; congr 1; omega
    have hnd : (y :: F).Nodup := List.nodup_cons.mpr ⟨fun z => (hFm y z).2.2 rfl, hFn⟩
    have s010 := s09.trans s10
    tm_at "vp"
    refine ⟨v, ps, L4, L5, y :: F, us, rfl, dp_same s010 hd, hv.ok, SqL.of (s10 _ _ fL4), SqL.of hL5, fun w hw => ?_, hul.symm, fun u hu => (hub u hu).1, by rw [List.length_cons]; omega, fun w qs H11 s11 hw hlo => ?_⟩
    · rcases List.mem_cons.mp hw with rfl | hw
      · exact hwn w hym
      · exact qds_nam w (hFm w hw).1
    have hfit := load_fit (c := c) (d := d) hlo hnd hub d0 husum rfl
    rw [eN] at hfit
    have s011 := s010.trans s11
    have haM := (s10.trans s11) _ _ haM
    have gy : getT qs y = getT ps y + d := by rw [hlo.get, cnt_zip_get hul.symm hnd 0 y d rfl hu0]
    have gx : x ≠ y → getT qs x = getT ps x := fun hne => by
      have : x ∉ y :: F := fun z => by
        rcases List.mem_cons.mp z with z | z
        · exact hne z
        · exact (hFm x z).2.1 rfl
      rw [hlo.get, (cnt_zip d0 hub hnd x).2 this]; omega
    have hqk := hlo.ok
    have hql : qs.length ≤ 12 := by have := hlo.len; rw [List.length_cons] at this; omega
    clear s09 s010 s10 s11 hL5 fL4 hlo hu0 husum hul hub U0 U1 U2 hFm hFn hm3
    tm_at "vp"
    rcases Decidable.em (x = y) with hne | hne
    rotate_left
    · rw [if_pos (show (!decide (x = y)) = true by rw [decide_eq_false hne]; rfl)]
      tm_at "vp"
      refine ⟨b, c, ps, N, d, w, qs, rfl, sum_same s011 ho, hv, eN.symm, d0, hw, hqk, hql, fun bb H12 s12 hbb => ?_⟩
      rw [hbb.mpr hfit]
      refine w_bl ?_
      rw [if_neg (by decide)]
      tm_at "vp"
      have s012 := s011.trans s12
      have haM12 := s12 _ _ haM
      have hw12 := dp_same s12 hw
      clear haM s011 s12 hw
      refine ⟨w, qs, rfl, hw12, hqk.tab.nd, by omega, fun l1 G1 _ t1 hl1 => ?_⟩
      refine w_isD hl1 ?_
      tm_at "vp"
      refine w_dgetk hl1 ?_
      rw [kv_get]
      tm_at "vp"
      refine ⟨w, qs, rfl, dp_same t1 hw12, hqk.tab.nd, by omega, fun l2 G2 _ t2 hl2 => ?_⟩
      refine w_isD hl2 ?_
      tm_at "vp"
      refine w_dgetk hl2 ?_
      rw [kv_get]
      tm_at "vp"
      have s0G := s012.trans (t1.trans t2)
      have haMG := (t1.trans t2) _ _ haM12
      have ev : (!decide (x = y) && decide (getT ps y + d < getT ps x)) = decide (getT qs y < getT qs x) := by
        rw [gy, gx hne, decide_eq_false hne]; rfl
      by_cases ht : (!decide (x = y) && decide (getT ps y + d < getT ps x)) = true
      · rw [if_pos ht]
        rw [Bool.and_eq_true, decide_eq_true_eq] at ht
        have eall : ms.all id = true := List.all_eq_true.mpr fun m hm => by
          obtain ⟨i, hi⟩ := List.mem_iff_getElem?.mp hm
          obtain ⟨t, h1, rfl⟩ := hms i m hi
          have hf := (hbs t (List.mem_of_getElem? h1)).1.2
          have f1 := hf x
          have f2 := hf y
          exact decide_eq_true (by omega)
        tm_at "vp"
        refine w_all (SqL.of haMG) ?_
        rw [eall]
        refine w_bl ?_
        rw [if_neg (by decide)]
        tm_at "vp"
        rw [if_pos (show (!decide (x = y)) = true by rw [decide_eq_false hne]; rfl)]
        tm_at "vp"
        rw [decide_eq_true ev, if_neg (by decide)]
        tm_at "vp"
        exact ⟨_, _, _, _, _, _, _, _, _, _, _, _, rfl, s0G⟩
      · rw [if_neg ht]
        tm_at "vp"
        rw [if_pos (show (!decide (x = y)) = true by rw [decide_eq_false hne]; rfl)]
        tm_at "vp"
        rw [decide_eq_true ev, if_neg (by decide)]
        tm_at "vp"
        exact ⟨_, _, _, _, _, _, _, _, _, _, _, _, rfl, s0G⟩
    rw [if_neg (show ¬ (!decide (x = y)) = true by rw [decide_eq_true hne]; decide)]
    tm_at "vp"
    refine ⟨w, qs, rfl, hw, hqk.tab.nd, by omega, fun l1 G1 _ t1 hl1 => ?_⟩
    refine w_isD hl1 ?_
    tm_at "vp"
    refine w_dgetk hl1 ?_
    rw [kv_get]
    tm_at "vp"
    refine ⟨w, qs, rfl, dp_same t1 hw, hqk.tab.nd, by omega, fun l2 G2 _ t2 hl2 => ?_⟩
    refine w_isD hl2 ?_
    tm_at "vp"
    refine w_dgetk hl2 ?_
    rw [kv_get]
    tm_at "vp"
    rw [if_neg (show ¬ (!decide (x = y) && decide (getT ps y + d < getT ps x)) = true by rw [decide_eq_true hne]; exact Bool.false_ne_true)]
    tm_at "vp"
    rw [if_neg (show ¬ (!decide (x = y)) = true by rw [decide_eq_true hne]; decide)]
    tm_at "vp"
    rw [decide_eq_true (show (!decide (x = y) && decide (getT ps y + d < getT ps x)) = false by rw [decide_eq_true hne]; rfl), if_neg (by decide)]
    tm_at "vp"
    exact ⟨_, _, _, _, _, _, _, _, _, _, _, _, rfl, s011.trans (t1.trans t2)⟩
theorem ok__law_right {P : Program} {w : World} {K : PySem.W.Frag} {mg : Str → Option Value} {base : Heap} (fr : Fre mg) (cl_Summary : ClsF K mg "Summary" ["capacity", "counts", "__bool__"]) (et_Summary___init___0 : ∀ H : Hp, SqT K H (dflA "Summary" "__init__" 0 K) []) (D : Dfd K mg "_law_right" s__law_right)
    (h__law_words : Has P w K mg base CX0 2 "_law_words" s__law_words ["_law_pool_here", "_law_many"] (sp__law_words K))
    (h__law_draw : Has P w K mg base CX0 1 "_law_draw" s__law_draw ["_law_pool_here", "_law_many"] (sp__law_draw K))
    (h_Summary___init__ : HasM P w K mg base CX0 5 "Summary" "__init__" "Summary.__init__" s_Summary___init__ [.ref (dflA "Summary" "__init__" 0 K)] ["self", "capacity", "counts"] (sp_Summary___init__ K))
    (h__law_sum : Has P w K mg base CX0 1 "_law_sum" s__law_sum ["_law_bag"] (sp__law_sum K))
    (h__law_loaded : Has P w K mg base CX0 2 "_law_loaded" s__law_loaded ["_law_held_here", "_law_words_here", "_law_units"] (sp__law_loaded K))
    (h__law_dealt : Has P w K mg base CX0 2 "_law_dealt" s__law_dealt ["_law_pool_here", "_law_many", "_law_left", "_law_deep"] (sp__law_dealt K))
    (h_fits : Has P w K mg base CX0 6 "fits" s_fits ["summary", "size", "counts"] (sp_fits K))
    (h_true_range : Has P w K mg base CX0 5 "true_range" s_true_range ["summary", "size", "name"] (sp_true_range K))
    (h__law_held : Has P w K mg base CX0 1 "_law_held" s__law_held ["_law_bag"] (sp__law_held K))
    (h__law_raised : Has P w K mg base CX0 3 "_law_raised" s__law_raised ["_law_width", "_law_held_here", "_law_deep", "_law_word"] (sp__law_raised K))
    (h_most_ahead : Has P w K mg base CX0 5 "most_ahead" s_most_ahead ["summary", "size", "name"] (sp_most_ahead K))
    (h__law_count_ahead : Has P w K mg base CX0 2 "_law_count_ahead" s__law_count_ahead ["_law_bag", "_law_word"] (sp__law_count_ahead K))
    (h_surely_among : Has P w K mg base CX0 6 "surely_among" s_surely_among ["summary", "size", "name", "number"] (sp_surely_among K))
    (h__law_pairs_right : Has P w K mg base CX0 7 "_law_pairs_right" s__law_pairs_right ["_law_board", "_law_held_here", "_law_deep", "_law_some", "_law_words_here"] (sp__law_pairs_right K)) : Has P w K mg base CX0 8 "_law_right" s__law_right ["_law_pool_here"] (sp__law_right K) := by
  refine D.has sc__law_right (fun vs H Q E h => ?_) (fun cdv A outer s H vs Q E hr hg h => ?_)
  · obtain ⟨p, rfl, _⟩ := h; rfl
  · obtain ⟨p, rfl, hp, k⟩ := h
    have nd := sc__law_right.nd
    refine ⟨_, PSs.nox (pss_cons (ps_asg (pe_tup (pa_cons (pe_op op_add pe_int (pe_fn h__law_draw pb__law_draw (hr.mono (by decide)) hg rfl pass0 (pa_cons (pv 0) (pa_cons pe_int pa_nil)))) (pa_cons (pe_fn h__law_words pb__law_words (hr.mono (by decide)) hg rfl pass0 (pa_cons (pv 0) (pa_cons pe_int pa_nil))) pa_nil))) (k_gtup K rfl (pgs_cons (pg_name (i := 1) nd rfl (Or.inl rfl)) (pgs_cons (pg_name (i := 2) nd rfl (Or.inr rfl)) pgs_nil))))
      (pss_cons (ps_set (i := 3) nd rfl (Or.inl rfl) (pe_slice (k_slL K) (pv 2) po_none (po_some (pe_fn h__law_draw pb__law_draw (hr.mono (by decide)) hg rfl pass0 (pa_cons (pv 0) (pa_cons (pe_op op_add (pv 1) pe_int) pa_nil))))))
      (pss_cons (ps_set (i := 4) nd rfl (Or.inl rfl) (pe_callTy (k_tuple K) rfl fr.tuple_ (by decide +kernel) (pa_cons (pe_callB (k_sortedB K) rfl fr.sorted_ (by decide +kernel) (pa_cons (pe_lc (own := [("_law_word", 5)]) (g := gName 5) (tt := tYes) rfl nd (k_iList K (pv 3)) (blkOk_by (own := [("_law_word", 5)]) (N := N__law_right) (sc := defScope s__law_right) (by decide +kernel)) (fun _ _ _ _ _ => (pg_name (i := 5) nd rfl (Or.inl rfl))) (fun _ _ _ _ _ => pts_nil) (fun _ _ _ _ _ => (pe_tup (pa_cons (pv 5) (pa_cons (pe_op op_add pe_int (pe_fn h__law_draw pb__law_draw (hr.mono (by decide)) hg rfl pass0 (pa_cons (pv 0) (pa_cons pe_int pa_nil)))) pa_nil))))) pa_nil)) pa_nil)))
      (pss_cons (ps_asg (pe_tup (pa_cons (pe_fn h__law_draw pb__law_draw (hr.mono (by decide)) hg rfl pass0 (pa_cons (pv 0) (pa_cons pe_int pa_nil))) (pa_cons (pe_mk cl_Summary h_Summary___init__ bj_Summary___init___3 (hr.mono (by decide)) hg rfl pass0 (pa_cons (pv 1) (pa_cons (pv 4) pa_nil))) (pa_cons (pe_lst pa_nil) pa_nil)))) (k_gtup K rfl (pgs_cons (pg_name (i := 6) nd rfl (Or.inl rfl)) (pgs_cons (pg_name (i := 7) nd rfl (Or.inr rfl)) (pgs_cons (pg_name (i := 8) nd rfl (Or.inl rfl)) pgs_nil)))))
      (pss_cons (ps_set (i := 9) nd rfl (Or.inl rfl) (pe_op op_mul (pv 6) (pe_op op_add (pv 1) pe_int)))
      (pss_cons (ps_asg (pe_tup (pa_cons (pe_op op_add (pe_fn h__law_sum pb__law_sum (hr.mono (by decide)) hg rfl pass0 (pa_cons (pv 4) pa_nil)) (pv 9)) (pa_cons (pe_lst (pa_cons pe_str (pa_cons pe_str (pa_cons pe_str (pa_cons pe_str (pa_cons pe_str (pa_cons pe_str (pa_cons pe_str pa_nil)))))))) pa_nil))) (k_gtup K rfl (pgs_cons (pg_name (i := 10) nd rfl (Or.inr rfl)) (pgs_cons (pg_name (i := 11) nd rfl (Or.inl rfl)) pgs_nil))))
      (pss_cons (ps_set (i := 12) nd rfl (Or.inl rfl) (pe_op op_cat (pe_lc (own := [("_law_pair", 13)]) (g := gName 13) (tt := tYes) rfl nd (k_iTup K (pv 4)) (blkOk_by (own := [("_law_pair", 13)]) (N := N__law_right) (sc := defScope s__law_right) (by decide +kernel)) (fun _ _ _ _ _ => (pg_name (i := 13) nd rfl (Or.inl rfl))) (fun _ _ _ _ _ => pts_nil) (fun _ _ _ _ _ => (pe_ix (k_ixT K) (pv 13) pe_int (fun _ _ => rfl)))) (pe_lc (own := [("_law_each", 14)]) (g := gName 14) rfl nd (k_iList K (pv 11)) (blkOk_by (own := [("_law_each", 14)]) (N := N__law_right) (sc := defScope s__law_right) (by decide +kernel)) (fun _ _ _ _ _ => (pg_name (i := 14) nd rfl (Or.inl rfl))) (fun _ _ _ _ _ => (pts_one (pt_cmpR (k_notInSeq K) (pv 14) (pv 2) rfl))) (fun _ _ _ _ _ => (pv 14)))))
      (pss_cons (ps_for PassesOwn.never rfl (pi_range1 rfl fr.range_ (pa_cons pe_int pa_nil)) (pg_name (i := 15) nd rfl (Or.inl rfl))
        (pss_one (ps_expr (k_bm K PySem.F.plainAttrs_list PySem.F.slot_list_append PySem.F.type_list_append mt_append (pv 8) (pa_cons (pe_fn h__law_loaded pb__law_loaded (hr.mono (by decide)) hg rfl pass0 (pa_cons (pv 4) (pa_cons (pv 12) (pa_cons (pe_fn h__law_dealt pb__law_dealt (hr.mono (by decide)) hg rfl pass0 (pa_cons (pv 0) (pa_cons (pe_callB (k_len K) rfl fr.len_ (by decide +kernel) (pa_cons (pv 12) pa_nil)) (pa_cons (pv 9) (pa_cons (pv 6) pa_nil))))) pa_nil)))) pa_nil)))))
      (pss_cons (ps_if (pt_not (pt_val (pe_callB (k_all K rfl) rfl fr.all_ (by decide +kernel) (pa_cons (pe_lc (own := [("_law_bag", 16)]) (g := gName 16) (tt := tYes) rfl nd (k_iList K (pv 8)) (blkOk_by (own := [("_law_bag", 16)]) (N := N__law_right) (sc := defScope s__law_right) (by decide +kernel)) (fun _ _ _ _ _ => (pg_name (i := 16) nd rfl (Or.inl rfl))) (fun _ _ _ _ _ => pts_nil) (fun _ _ _ _ _ => (pe_fn h_fits pb_fits (hr.mono (by decide)) hg rfl pass0 (pa_cons (pv 7) (pa_cons (pv 10) (pa_cons (pv 16) pa_nil)))))) pa_nil)))) (pss_one (ps_ret pe_bl)) pss_nil)
      (pss_cons (ps_for PassesOwn.never rfl (k_iList K (pv 2)) (pg_name (i := 5) nd rfl (Or.inr rfl))
        (pss_cons (ps_asg (pe_fn h_true_range pb_true_range (hr.mono (by decide)) hg rfl pass0 (pa_cons (pv 7) (pa_cons (pv 10) (pa_cons (pv 5) pa_nil)))) (k_gtup K rfl (pgs_cons (pg_name (i := 17) nd rfl (Or.inr rfl)) (pgs_cons (pg_name (i := 18) nd rfl (Or.inr rfl)) pgs_nil))))
      (pss_cons (ps_if (pt_not (pt_val (pe_callB (k_all K rfl) rfl fr.all_ (by decide +kernel) (pa_cons (pe_lc (own := [("_law_bag", 16)]) (g := gName 16) (tt := tYes) rfl nd (k_iList K (pv 8)) (blkOk_by (own := [("_law_bag", 16)]) (N := N__law_right) (sc := defScope s__law_right) (by decide +kernel)) (fun _ _ _ _ _ => (pg_name (i := 16) nd rfl (Or.inl rfl))) (fun _ _ _ _ _ => pts_nil) (fun _ _ _ _ _ => (pe_chain op_le op_le (pv 17) (pe_dget2 (hu_of hr) (pe_fn h__law_held pb__law_held (hr.mono (by decide)) hg rfl pass0 (pa_cons (pv 16) pa_nil)) (pv 5) pe_int ⟨rfl, rfl, rfl, rfl⟩) (pv 18)))) pa_nil)))) (pss_one (ps_ret pe_bl)) pss_nil)
      (pss_cons (ps_asg (pe_tup (pa_cons (pe_fn h_most_ahead pb_most_ahead (hr.mono (by decide)) hg rfl pass0 (pa_cons (pv 7) (pa_cons (pv 10) (pa_cons (pv 5) pa_nil)))) (pa_cons (pe_fn h__law_raised pb__law_raised (hr.mono (by decide)) hg rfl pass0 (pa_cons (pv 1) (pa_cons (pv 4) (pa_cons (pv 6) (pa_cons (pv 5) pa_nil))))) pa_nil))) (k_gtup K rfl (pgs_cons (pg_name (i := 19) nd rfl (Or.inr rfl)) (pgs_cons (pg_name (i := 20) nd rfl (Or.inl rfl)) pgs_nil))))
      (pss_cons (ps_if (pt_not (pt_val (pe_callB (k_all K rfl) rfl fr.all_ (by decide +kernel) (pa_cons (pe_lc (own := [("_law_bag", 16)]) (g := gName 16) (tt := tYes) rfl nd (k_iList K (pv 8)) (blkOk_by (own := [("_law_bag", 16)]) (N := N__law_right) (sc := defScope s__law_right) (by decide +kernel)) (fun _ _ _ _ _ => (pg_name (i := 16) nd rfl (Or.inl rfl))) (fun _ _ _ _ _ => pts_nil) (fun _ _ _ _ _ => (pe_cmpR op_le (pe_fn h__law_count_ahead pb__law_count_ahead (hr.mono (by decide)) hg rfl pass0 (pa_cons (pv 16) (pa_cons (pv 5) pa_nil))) (pv 19) (nomark _)))) pa_nil)))) (pss_one (ps_ret pe_bl)) pss_nil)
      (pss_cons (ps_set (i := 21) nd rfl (Or.inl rfl) (pe_fn h__law_count_ahead pb__law_count_ahead (hr.mono (by decide)) hg rfl pass0 (pa_cons (pv 20) (pa_cons (pv 5) pa_nil))))
      (pss_cons (ps_if (PW.pt (pw_and (pt_cmpR op_lt (pe_callB (k_len K) rfl fr.len_ (by decide +kernel) (pa_cons (pv 20) pa_nil)) pe_int (nomark _)) (pw_and1 (PW.pt (pw_or (pt_not (pt_val (pe_fn h_fits pb_fits (hr.mono (by decide)) hg rfl pass0 (pa_cons (pv 7) (pa_cons (pv 10) (pa_cons (pv 20) pa_nil)))))) (pw_or1 (pt_cmpR op_ne (pv 21) (pv 19) (nomark _)))))))) (pss_one (ps_ret pe_bl)) pss_nil)
      (pss_cons (ps_if (pt_cmpR op_notBl (pe_fn h_surely_among pb_surely_among (hr.mono (by decide)) hg rfl pass0 (pa_cons (pv 7) (pa_cons (pv 10) (pa_cons (pv 5) (pa_cons (pe_op op_add (pv 19) pe_int) pa_nil))))) pe_bl (nomark _)) (pss_one (ps_ret pe_bl)) pss_nil)
      (pss_one (ps_if (pt_cmpR op_ne (pe_fn h_surely_among pb_surely_among (hr.mono (by decide)) hg rfl pass0 (pa_cons (pv 7) (pa_cons (pv 10) (pa_cons (pv 5) (pa_cons (pe_callB (c_max2 rfl) rfl fr.max_ (by decide +kernel) (pa_cons pe_int (pa_cons (pv 19) pa_nil))) pa_nil))))) (pe_cmpR op_lt (pv 19) pe_int (nomark _)) (nomark _)) (pss_one (ps_ret pe_bl)) pss_nil))))))))))
      (pss_one (ps_ret (pe_fn h__law_pairs_right pb__law_pairs_right (hr.mono (by decide)) hg rfl pass0 (pa_cons (pv 7) (pa_cons (pv 4) (pa_cons (pv 6) (pa_cons (pv 8) (pa_cons (pv 2) pa_nil)))))))))))))))))), ?_⟩
    try dsimp only [cxOf]
    have est : ∀ a0 : V, L2.start N__law_right [a0] = [some a0, none, none, none, none, none, none, none, none, none, none, none, none, none, none, none, none, none, none, none, none, none] := fun _ => rfl
    simp only [est]
    clear est
    tm_at "vp"
    refine ⟨p, 3, rfl, hp, by decide, by decide, fun n1 H1 n10 n11 s1 => ?_⟩
    obtain ⟨k1, rfl⟩ := Int.eq_ofNat_of_zero_le n10
    obtain ⟨c, ec⟩ : ∃ c : Int, 1 + ((k1 : Nat) : Int) = c := ⟨_, rfl⟩
    have c1 : 1 ≤ c := by omega
    have c3 : c ≤ 3 := by omega
    tm_at "vp"
    rw [ec]
    refine ⟨p, 3, rfl, s1 _ _ hp, by decide, by decide, fun a ws H2 _ s2 ha hw hwq => ?_⟩
    have wl : ws.length = 3 := hw.len
    have hwq := hwq rfl
    tm_at "vp"
    rename_i T hT
    refine w_gtup (SqT.of upd_same) rfl ?_
    have ha := hp_new ha hT (u := HO.tup [V.int c, V.ref a])
    have s3 := s1.trans (s2.trans (same_new hT (u := HO.tup [V.int c, V.ref a])))
    generalize upd H2 T (HO.tup [V.int c, V.ref a]) = H3 at *
    tm_at "vp"
    simp only [List.set_cons_zero, List.set_cons_succ]
    refine ⟨p, _, rfl, s3 _ _ hp, by omega, by omega, fun r H4 r0 r1 s4 => ?_⟩
    obtain ⟨m, rfl⟩ := Int.eq_ofNat_of_zero_le r0
    have hm3 : m ≤ 3 := by omega
    refine ⟨_, rfl, ?_⟩
    refine w_slL (SqL.of (s4 _ _ ha)) fun L hL => ?_
    rw [cutV_take, ← List.map_take]
    have fL : (upd H4 L (.lst ((ws.take m).map V.str))) L = some (.lst ((ws.take m).map V.str)) := upd_same
    have s5 := s3.trans (s4.trans (same_new hL (u := HO.lst ((ws.take m).map V.str))))
    have ha := (s4.trans (same_new hL (u := HO.lst ((ws.take m).map V.str)))) _ _ ha
    generalize upd H4 L (HO.lst ((ws.take m).map V.str)) = H5 at *
    have hul : (ws.take m).length = m := by rw [List.length_take]; omega
    have hun : (ws.take m).Nodup := hw.nd.sublist (List.take_sublist _ _)
    have hum : ∀ w ∈ ws.take m, isName w = true := fun w h => hw.nam w (List.mem_of_mem_take h)
    have hus : ∀ w ∈ ws.take m, w ∈ ws := fun w h => List.mem_of_mem_take h
    generalize ws.take m = us at *
    clear s1 s2 s3 s4 hT hL
    tm_at "vp"
    simp only [List.set_cons_zero, List.set_cons_succ]
    refine w_onL (SqL.of fL) ?_
    intro D1 hD1
    refine lc_dat K (walk_list (xs := us.map V.str)) (by rw [List.length_map]; omega) (fun i e => ∃ y n, us[i]? = some y ∧ (1 ≤ n ∧ n ≤ 5) ∧ e = pairD (y, n)) hD1 (fun _ s => SqL.of (s _ _ fL)) ?_ ?_ mono_gname
    · rintro i y G1 G2 hi s ⟨rfl, hy⟩ Qy hq
      rw [List.length_map] at hi
      have ey : y = .str us[i] := by
        have hy : (us.map V.str)[i]? = some y := hy
        rw [List.getElem?_map, List.getElem?_eq_getElem hi] at hy; exact (Option.some.inj hy).symm
      subst ey
      refine w_gname ⟨rfl, ?_⟩
      tm_at "vp"
      refine ⟨p, 5, rfl, (s5.trans s) _ _ hp, by decide, by decide, fun q G3 q0 q1 s3 => ?_⟩
      tm_at "vp"
      rename_i T2 hT2
      exact hq _ (pairD (us[i], 1 + q)) _ (s3.trans (same_new hT2)) (pair_mk (SqT.of upd_same)) rfl ⟨_, _, List.getElem?_eq_getElem hi, ⟨by omega, by omega⟩, rfl⟩
    intro acc ds H6 s6 _ hacc hdp _ hdl hR
    obtain ⟨bs, rfl, hbk, hb5⟩ := dat_keys (P := fun n => 1 ≤ n ∧ n ≤ 5) (by rw [hdl, List.length_map]) hR
    have hbl : bs.length = m := by
      have := congrArg List.length hbk
      unfold keys at this
      rw [List.length_map] at this
      omega
    tm_at "vp"
    refine w_sortedB (SqL.of hacc) hdp (by rw [hbk]; exact hun) (by omega) ?_
    intro ys ps Z hperm hasc hdpZ hZ
    have hpl : ps.length = m := by rw [hperm.length_eq, hbl]
    have hok : BagOk ps := ⟨hasc, fun q hq => by
      have h1 := hperm.mem_iff.mp hq
      exact hum _ (by rw [← hbk]; exact List.mem_map.mpr ⟨q, h1, rfl⟩), fun q hq => (hb5 q (hperm.mem_iff.mp hq)).1⟩
    have hpk : ∀ n ∈ keys ps, n ∈ ws := fun n hn => by
      obtain ⟨q, hq, rfl⟩ := List.mem_map.mp hn
      exact hus _ (by rw [← hbk]; exact List.mem_map.mpr ⟨q, hperm.mem_iff.mp hq, rfl⟩)
    have hps5 : ∀ q ∈ ps, q.2 ≤ 5 := fun q hq => (hb5 q (hperm.mem_iff.mp hq)).2
    tm_at "vp"
    refine w_tupL (SqL.of upd_same) ?_
    intro T2 hT2
    have s56 := s6.trans ((same_new hZ (u := HO.lst ys)).trans (same_new hT2 (u := HO.tup ys)))
    have hv : Dp K (upd (upd H6 Z (.lst ys)) T2 (.tup ys)) (.ref T2) (bagD ps) := .tup (SqT.of upd_same) (dps_same ((same_new hZ).trans (same_new hT2)) hdpZ)
    generalize upd (upd H6 Z (.lst ys)) T2 (.tup ys) = H7 at *
    have s7 := s5.trans s56
    have ha7 := s56 _ _ ha
    clear s5 s56 s6 hT2 hZ hdpZ hdp hacc hR hdl fL ha hD1 hperm hbk hb5 hbl
    tm_at "vp"
    simp only [List.set_cons_zero, List.set_cons_succ]
    refine ⟨p, 4, rfl, s7 _ _ hp, by decide, by decide, fun d H8 d0 d1 s8 => ?_⟩
    have d3 : d ≤ 3 := by omega
    have hsv : SumV c ps := ⟨c1, by omega, hok, by omega⟩
    have hv8 := dp_same s8 hv
    tm_at "vp"
    refine w_mkSum (fun _ => rfl) hv8 hsv fun b H9 s9 ho9 => ?_
    tm_at "vp"
    rename_i S hS T3 hT3
    refine w_gtup (SqT.of upd_same) rfl ?_
    have fS := hp_new (@upd_same H9 S (HO.lst [])) hT3 (u := HO.tup [V.int d, b, V.ref S])
    have sA : Same H9 (upd (upd H9 S (HO.lst [])) T3 (HO.tup [V.int d, b, V.ref S])) := (same_new hS).trans (same_new hT3)
    generalize upd (upd H9 S (HO.lst [])) T3 (HO.tup [V.int d, b, V.ref S]) = HA at *
    have s09 := s7.trans (s8.trans s9)
    have hv9 := dp_same s9 hv8
    have ha9 := (s8.trans s9) _ _ ha7
    clear hv hv8 ha7 s7 s8 s9 hT3
    tm_at "vp"
    simp only [List.set_cons_zero, List.set_cons_succ]
    obtain ⟨U, eU⟩ : ∃ U, d * (c + 1) = U := ⟨_, rfl⟩
    rw [eU]
    have U0 : 0 ≤ U := by rw [← eU]; exact Int.mul_nonneg d0 (by omega)
    refine ⟨.ref T2, ps, rfl, dp_same sA hv9, by omega, fun HB sB => ?_⟩
    tm_at "vp"
    obtain ⟨N, eN⟩ : ∃ N, sumC ps + U = N := ⟨_, rfl⟩
    rw [eN]
    rename_i Lf hLf T4 hT4
    refine w_gtup (SqT.of upd_same) rfl ?_
    have sC := sB.trans ((same_new hLf (u := HO.lst [V.str "qa", .str "qb", .str "qc", .str "qd", .str "qe", .str "qf", .str "qg"])).trans (same_new hT4 (u := HO.tup [V.int N, V.ref Lf])))
    have fLf := hp_new (@upd_same HB Lf (HO.lst [V.str "qa", .str "qb", .str "qc", .str "qd", .str "qe", .str "qf", .str "qg"])) hT4 (u := HO.tup [V.int N, V.ref Lf])
    generalize upd (upd HB Lf (HO.lst [V.str "qa", .str "qb", .str "qc", .str "qd", .str "qe", .str "qf", .str "qg"])) T4 (HO.tup [V.int N, V.ref Lf]) = HC at *
    have fLf : HC Lf = some (.lst (q7s.map V.str)) := fLf
    have fS := sC _ _ fS
    have s9C := sA.trans sC
    clear sA sB sC hLf hT4
    tm_at "vp"
    simp only [List.set_cons_zero, List.set_cons_succ]
    obtain ⟨ta, txs, eta, hts, htx, htl⟩ := bag_inv hv9
    cases eta
    refine w_onT (sqt_same s9C hts) ?_
    intro D2 hD2
    refine lc_map (walk_tup (xs := txs)) (by rw [htl]; omega) (fun i y => ∃ n, (keys ps)[i]? = some n ∧ y = .str n) hD2 (fun _ s => sqt_same (s9C.trans s) hts) ?_ ?_ mono_gname
    · rintro i y G1 G2 hi s ⟨rfl, hy⟩ Qy hq
      obtain ⟨q, bb, e1, rfl, hbb⟩ := bag_get htx hy
      refine w_gname ⟨rfl, ?_⟩
      tm_at "vp"
      refine w_ixT (sqt_same (s9C.trans s) hbb) (v := .str q.1) rfl ?_
      exact hq _ _ (Same.refl _) ⟨q.1, by unfold keys; rw [List.getElem?_map, e1]; rfl, rfl⟩
    intro accK HD sD _ haccK hlK hfK
    have hkl : (keys ps).length = ps.length := List.length_map _
    have eK : accK = (keys ps).map V.str := acc_map (by rw [hlK, hkl]; exact htl) hfK
    rw [eK] at haccK
    tm_at "vp"
    refine w_onL (SqL.of (sD _ _ fLf)) ?_
    intro D3 hD3
    refine lc_fm (walk_list (xs := q7s.map V.str)) q7s (fun w => if w ∈ ws then none else some (V.str w)) (by rw [List.length_map]) (by decide +kernel) hD3 (fun _ s => SqL.of (s _ _ (sD _ _ fLf))) ?_ ?_
    · rintro i z w G1 G2 hi s ⟨rfl, hz⟩ Qy hq1
      have ez : z = .str w := by
        have hz : (q7s.map V.str)[i]? = some z := hz
        rw [List.getElem?_map, hi] at hz; exact (Option.some.inj hz).symm
      subst ez
      refine w_gname ⟨rfl, ?_⟩
      tm_at "vp"
      refine ⟨a, _, rfl, .inl (SqL.of ((s9C.trans (sD.trans s)) _ _ ha9)), rfl, flat_strs ws, ?_⟩
      rw [inV_str]
      tm_at "vp"
      by_cases m : w ∈ ws
      · rw [if_pos m] at hq1
        rw [decide_eq_true m]
        exact hq1 _ (Same.refl _)
      · rw [if_neg m] at hq1
        rw [decide_eq_false m, if_pos (show (if true = true then !false else false) = true from rfl)]
        tm_at "vp"
        exact hq1 _ (Same.refl _)
    intro HE1 sE _ haccF
    have efr : ∀ l : List Str, (l.filterMap fun w => if w ∈ ws then none else some (V.str w)) = (l.filter fun w => !decide (w ∈ ws)).map V.str := fun l => by
      induction l with
      | nil => rfl
      | cons w r ih =>
        rw [List.filterMap_cons]
        by_cases z : w ∈ ws
        · rw [if_pos z, List.filter_cons_of_neg (by rw [decide_eq_true z]; decide), ih]
        · rw [if_neg z, List.filter_cons_of_pos (by rw [decide_eq_false z]; rfl), List.map_cons, ih]
    rw [efr] at haccF
    have hm4 := q7_many wl
    have hFm : ∀ w ∈ q7s.filter fun w => !decide (w ∈ ws), w ∈ q7s ∧ w ∉ ws := fun w hw => by
      obtain ⟨m1, m2⟩ := List.mem_filter.mp hw
      exact ⟨m1, fun z => by rw [decide_eq_true z] at m2; cases m2⟩
    have hFn : (q7s.filter fun w => !decide (w ∈ ws)).Nodup := q7_nd.sublist List.filter_sublist
    have hFl : (q7s.filter fun w => !decide (w ∈ ws)).length ≤ 7 := List.length_filter_le _ _
    generalize (q7s.filter fun w => !decide (w ∈ ws)) = F at *
    tm_at "vp"
    refine w_cat (sE _ _ haccK) haccF (sz_le (by
      simp only [List.length_map]
      have e9 : List.length (keys ps) = List.length ps := hkl
      omega)) ?_
    intro M hM
    have fM : (upd HE1 M (.lst ((keys ps).map V.str ++ F.map V.str))) M = some (.lst ((keys ps ++ F).map V.str)) := by rw [List.map_append]; exact upd_same
    have sF := sD.trans (sE.trans (same_new hM (u := HO.lst ((keys ps).map V.str ++ F.map V.str))))
    have hMS : M ≠ S := fun z => by
      have := (sD.trans sE) _ _ fS
      rw [← z, hM] at this
      cases this
    generalize upd HE1 M (.lst ((keys ps).map V.str ++ F.map V.str)) = HF at *
    have fS := sF _ _ fS
    have s9F := s9C.trans sF
    have hmn : (keys ps ++ F).Nodup := by
      rw [List.nodup_append]
      exact ⟨hok.tab.nd, hFn, fun x hx y hy e => (hFm y hy).2 (by rw [← e]; exact hpk x hx)⟩
    have hmm : ∀ w ∈ keys ps ++ F, isName w = true := fun w hw' => by
      rcases List.mem_append.mp hw' with h | h
      · exact hw.nam w (hpk w h)
      · exact q7_nam w (hFm w h).1
    have hml : 4 ≤ (keys ps ++ F).length ∧ (keys ps ++ F).length ≤ 10 := by rw [List.length_append]; omega
    have hks : ∀ n ∈ keys ps, n ∈ keys ps ++ F := fun n hn => List.mem_append_left _ hn
    generalize keys ps ++ F = ms at *
    clear sF sE sD hM haccF haccK hD2 hD3 fLf s9C hFm hFn hFl hm4 eK hfK hlK
    have hUm : U ≤ d * ((ms.length : Nat) : Int) := by rw [← eU]; exact Int.mul_le_mul_of_nonneg_left (by omega) d0
    have eN' : N = sumC ps + d * (c + 1) := by rw [eU, eN]
    tm_at "vp"
    simp only [List.set_cons_zero, List.set_cons_succ]
    refine w_onR1 ⟨by decide, by decide⟩ ?_
    refine for_go walk_range (fun i σ H' => ∃ (xs : List V) (bs : List Bag) (u15 : Option V), σ = [some (.ref p), some (.int c), some (.ref a), some (.ref L), some (.ref T2), none, some (.int d), some b, some (.ref S), some (.int U), some (.int N), some (.ref Lf), some (.ref M), none, none, u15, none, none, none, none, none, none] ∧ Same H9 H' ∧ H' S = some (.lst xs) ∧ H' M = some (.lst (ms.map V.str)) ∧ DpAll K H' xs (bs.map bagD) ∧ bs.length = i ∧ ∀ qs ∈ bs, FitB ps d N qs ∧ BagOk qs ∧ qs.length ≤ 12) ⟨[], [], none, rfl, s9F, fS, fM, .nil, rfl, nofun⟩ (fun _ _ _ _ _ => trivial) ?_ ?_
    · rintro i y σ G1 G2 hi ⟨xs, bs, u15, rfl, s2, hS2, hM2, hdb, hbl, hbs⟩ ⟨rfl, rfl⟩
      refine w_gname ?_
      tm_at "vp"
      refine w_tyL hS2 ?_
      tm_at "vp"
      refine w_lenL (SqL.of hM2) ?_
      tm_at "vp"
      rw [List.length_map]
      refine ⟨p, ms.length, U, d, rfl, (s09.trans s2) _ _ hp, by omega, d0, by omega, U0, hUm, fun l us G3 _ s3 hl hul hub husum => ?_⟩
      tm_at "vp"
      refine ⟨.ref T2, ps, M, l, ms, us, rfl, dp_same (s2.trans s3) hv9, hok, SqL.of (s3 _ _ hM2), SqL.of hl, hmm, hul.symm, fun u hu => (hub u hu).1, by omega, fun w qs G4 s4 hw4 hlo => ?_⟩
      have hfit := load_fit (c := c) (d := d) hlo hmn hub d0 (by rw [husum, eU]) eN'
      have hql := load_len hlo d0 hub hmn hks
      have hS4 := (s3.trans s4) _ _ hS2
      have hxl := dps_len hdb
      rw [List.length_map] at hxl
      have hi8 : i < 8 := hi
      tm_at "vp"
      refine w_append hS4 (sz_lt (by omega)) ?_
      have st : SameT G4 (upd G4 S (.lst (xs ++ [w]))) := SameT.lst hS4
      refine ⟨xs ++ [w], bs ++ [qs], _, rfl, same_mut (s2.trans (s3.trans s4)) hS, upd_same, (upd_ne hMS).trans ((s3.trans s4) _ _ hM2), ?_, by rw [List.length_append, hbl]; rfl, fun z hz => ?_⟩
      · rw [List.map_append]
        exact dps_snoc (dps_flat st (dps_same (s3.trans s4) hdb) (flat_bgs bs)) (dp_flat st hw4 (flat_bag qs))
      · rcases List.mem_append.mp hz with hz | hz
        · exact hbs z hz
        · rw [List.mem_singleton.mp hz]
          exact ⟨hfit, hlo.ok, by omega⟩
    rintro σ HG ⟨xs, bs, u15, rfl, s2, hS2, hM2, hdb, hbl, hbs⟩
    have hbl : bs.length = 8 := hbl
    tm_at "vp"
    have hxl := dps_len hdb
    rw [List.length_map] at hxl
    have hbag : ∀ (i : Nat) (y : V), xs[i]? = some y → ∃ qs, bs[i]? = some qs ∧ Dp K HG y (bagD qs) := fun i y e => by
      obtain ⟨e1, q1, q2⟩ := dps_get hdb e
      rw [List.getElem?_map] at q1
      cases z : bs[i]? with
      | none => rw [z] at q1; cases q1
      | some t =>
        rw [z] at q1
        cases Option.some.inj q1
        exact ⟨t, rfl, q2⟩
    have s0G := s09.trans s2
    have hoG := sum_same s2 ho9
    have hvG := dp_same s2 hv9
    have haG := s2 _ _ ha9
    have hpG := s0G _ _ hp
    clear s2 s09 ho9 hv9 ha9 hM2 fM fS s9F hS hMS hts htx htl fLf hmn hmm hml hUm hks
    have alltrue : ∀ {acc : List V}, acc.length = 8 → (∀ (i : Nat) (y : V), acc[i]? = some y → y = .bl true) → acc = (List.replicate 8 true).map V.bl := fun {acc} hl hf => acc_map (by rw [hl]; rfl) fun i y e => by
      obtain ⟨h, _⟩ := List.getElem?_eq_some_iff.mp e
      exact ⟨true, by rw [List.getElem?_replicate, if_pos (by omega)], hf i y e⟩
    refine w_onL (SqL.of hS2) ?_
    intro D5 hD5
    refine lc_map (walk_list (xs := xs)) (by omega) (fun i y => y = .bl true) hD5 (fun _ s => SqL.of (s _ _ hS2)) ?_ ?_ mono_gname
    · rintro i y G1 G2 hi s ⟨rfl, hy⟩ Qy hq
      obtain ⟨qs, e1, e2⟩ := hbag i y hy
      obtain ⟨q1, q2, q3⟩ := hbs qs (List.mem_of_getElem? e1)
      refine w_gname ⟨rfl, ?_⟩
      tm_at "vp"
      refine ⟨b, c, ps, N, d, y, qs, rfl, sum_same s hoG, hsv, eN', d0, dp_same s e2, q2, q3, fun bb G3 s3 hbb => hq _ _ s3 ?_⟩
      rw [hbb.mpr q1]
    intro acc1 HH s1 _ hacc1 hl1 hf1
    rw [alltrue (by omega) hf1] at hacc1
    tm_at "vp"
    refine w_all (SqL.of hacc1) ?_
    rw [show (List.replicate 8 true).all id = true from rfl]
    refine w_bl ?_
    rw [if_neg (by decide)]
    tm_at "vp"
    refine w_onL (SqL.of (s1 _ _ haG)) ?_
    refine for_go (walk_list (xs := ws.map V.str)) (fun i σ H' => ∃ u5 u15 u17 u18 u19 u20 u21, σ = [some (.ref p), some (.int c), some (.ref a), some (.ref L), some (.ref T2), u5, some (.int d), some b, some (.ref S), some (.int U), some (.int N), some (.ref Lf), some (.ref M), none, none, u15, none, u17, u18, u19, u20, u21] ∧ Same HG H') ⟨_, _, _, _, _, _, _, rfl, s1⟩ (fun i σ H' _ ⟨_, _, _, _, _, _, _, _, s⟩ => SqL.of (s _ _ haG)) ?_ ?_
    rotate_left
    · rintro σ HI ⟨u5, u15, u17, u18, u19, u20, u21, rfl, s2⟩
      tm_at "vp"
      exact ⟨b, .ref T2, c, d, ps, S, a, xs, bs, ws, rfl, sum_same s2 hoG, hsv, c3, d0, d3, dp_same s2 hvG, SqL.of (s2 _ _ hS2), dps_same s2 hdb, by omega, fun qs hq => by rw [← eN']; exact hbs qs hq, SqL.of (s2 _ _ haG), by omega, hw.nam, hwq, fun H' s' => k _ (s0G.trans (s2.trans s'))⟩
    rintro i y σ G1 HI hi ⟨u5, u15, u17, u18, u19, u20, u21, rfl, s2⟩ ⟨rfl, hy⟩
    obtain ⟨x, ex, rfl⟩ : ∃ x, ws[i]? = some x ∧ y = .str x := by
      have hy : (ws.map V.str)[i]? = some y := hy
      rw [List.getElem?_map] at hy
      cases z : ws[i]? with
      | none => rw [z] at hy; cases hy
      | some x => rw [z] at hy; exact ⟨x, rfl, (Option.some.inj hy).symm⟩
    have hxn : isName x = true := hw.nam x (List.mem_of_getElem? ex)
    refine w_gname ?_
    simp only [List.set_cons_zero, List.set_cons_succ]
    tm_at "vp"
    refine ⟨b, c, ps, N, d, x, rfl, sum_same s2 hoG, hsv, eN', d0, hxn, fun w HJ s3 hw3 => ?_⟩
    obtain ⟨ra, rxs, rfl, hrs, hrx⟩ := dp_tup_inv hw3
    cases hrx with
    | cons h1 r =>
    cases r with
    | cons h2 r =>
    cases r
    rw [dp_int_inv h1, dp_int_inv h2] at hrs
    have s23 := s2.trans s3
    refine w_gtup hrs rfl ?_
    tm_at "vp"
    simp only [List.set_cons_zero, List.set_cons_succ]
    refine w_onL (SqL.of (s23 _ _ hS2)) ?_
    intro D6 hD6
    refine lc_map (walk_list (xs := xs)) (by omega) (fun i y => y = .bl true) hD6 (fun _ s => SqL.of ((s23.trans s) _ _ hS2)) ?_ ?_ mono_gname
    · rintro i y G1 G2 hi s ⟨rfl, hy⟩ Qy hq
      obtain ⟨qs, e1, e2⟩ := hbag i y hy
      obtain ⟨q1, q2, q3⟩ := hbs qs (List.mem_of_getElem? e1)
      refine w_gname ⟨rfl, ?_⟩
      tm_at "vp"
      refine ⟨y, qs, rfl, dp_same (s23.trans s) e2, q2.tab.nd, by omega, fun l G3 _ s4 hl => ?_⟩
      refine w_isD hl ?_
      tm_at "vp"
      refine w_dgetk hl ?_
      rw [kv_get]
      have f := q1.2 x
      tm_at "vp"
      rw [decide_eq_true f.1, if_pos rfl]
      tm_at "vp"
      exact hq _ _ s4 (by rw [decide_eq_true f.2])
    intro acc2 HK s4 _ hacc2 hl2 hf2
    rw [alltrue (by omega) hf2] at hacc2
    tm_at "vp"
    refine w_all (SqL.of hacc2) ?_
    rw [show (List.replicate 8 true).all id = true from rfl]
    refine w_bl ?_
    rw [if_neg (by decide)]
    have s24 := s23.trans s4
    clear hacc2 hf2 hl2 s4 s23 hrs h1 h2 hw3 s3 hD6
    have h90 : sumC ps ≤ 10 ^ 90 := Int.le_trans (sumC_le5 hps5) (Int.le_trans (show (5 : Int) * (List.length ps : Nat) ≤ 15 by omega) (by decide))
    tm_at "vp"
    refine ⟨b, c, ps, N, d, x, rfl, sum_same s24 hoG, hsv, eN', d0, hxn, h90, fun HL s5 => ?_⟩
    have s25 := s24.trans s5
    tm_at "vp"
    refine ⟨c, d, .ref T2, ps, x, rfl, c1, c3, d0, d3, dp_same s25 hvG, hok, by omega, hxn, fun w qh HM s6 hwh hokh hlh hfith hah => ?_⟩
    rw [← eN'] at hfith
    tm_at "vp"
    rename_i T7 hT7
    refine w_gtup (SqT.of upd_same) rfl ?_
    have s26 := s25.trans (s6.trans (same_new hT7 (u := HO.tup [V.int (aheadL c d ps x), w])))
    have hwh := dp_same (same_new hT7 (u := HO.tup [V.int (aheadL c d ps x), w])) hwh
    generalize upd HM T7 (HO.tup [V.int (aheadL c d ps x), w]) = HN at *
    clear s24 s25 s5 s6 hT7
    tm_at "vp"
    simp only [List.set_cons_zero, List.set_cons_succ]
    refine w_onL (SqL.of (s26 _ _ hS2)) ?_
    intro D7 hD7
    refine lc_map (walk_list (xs := xs)) (by omega) (fun i y => y = .bl true) hD7 (fun _ s => SqL.of ((s26.trans s) _ _ hS2)) ?_ ?_ mono_gname
    · rintro i y G1 G2 hi s ⟨rfl, hy⟩ Qy hq
      obtain ⟨qs, e1, e2⟩ := hbag i y hy
      obtain ⟨q1, q2, q3⟩ := hbs qs (List.mem_of_getElem? e1)
      refine w_gname ⟨rfl, ?_⟩
      tm_at "vp"
      refine ⟨y, qs, x, rfl, dp_same (s26.trans s) e2, q2.tab.nd, by omega, fun G3 s4 => ?_⟩
      tm_at "vp"
      exact hq _ _ s4 (by rw [decide_eq_true (ahead_le hok q2 q1 eN')])
    intro acc3 HP s7 _ hacc3 hl3 hf3
    rw [alltrue (by omega) hf3] at hacc3
    tm_at "vp"
    refine w_all (SqL.of hacc3) ?_
    rw [show (List.replicate 8 true).all id = true from rfl]
    refine w_bl ?_
    rw [if_neg (by decide)]
    have s27 := s26.trans s7
    have hwP := dp_same s7 hwh
    clear hacc3 hf3 hl3 s7 s26 hD7 hwh
    tm_at "vp"
    refine ⟨w, qh, x, rfl, hwP, hokh.tab.nd, by omega, fun HR s8 => ?_⟩
    rw [hah]
    have s28 := s27.trans s8
    have hwR := dp_same s8 hwP
    clear hwP s8 s27
    tm_at "vq"
    tm_at "vx"
    simp only [List.set_cons_zero, List.set_cons_succ]
    with_reducible refine w_cut (fun σ H' => σ = [some (.ref p), some (.int c), some (.ref a), some (.ref L), some (.ref T2), some (.str x), some (.int d), some b, some (.ref S), some (.int U), some (.int N), some (.ref Lf), some (.ref M), none, none, u15, none, some (.int (getT ps x)), some (.int (getT ps x + d)), some (.int (aheadL c d ps x)), some w, some (.int (aheadL c d ps x))] ∧ Same HG H') ?_ ?_
    rotate_left
    · intro kE
      tm_at "vq"
      obtain ⟨wa, wxs, rfl, hws, hwx, hwl⟩ := bag_inv hwR
      refine w_lenT hws ?_
      tm_at "vq"
      refine w_ited (fun h => ?_) (fun h => ?_)
      · tm_at "vq"
        refine ⟨b, c, ps, N, d, .ref wa, qh, rfl, sum_same s28 hoG, hsv, eN', d0, hwR, hokh, by omega, fun bb HS s9 hbb => ?_⟩
        rw [hbb.mpr hfith]
        refine w_bl ?_
        rw [if_neg (by decide)]
        tm_at "vq"
        rw [decide_eq_true (show aheadL c d ps x = aheadL c d ps x from rfl), if_neg (by decide)]
        tm_at "vx"
        exact kE _ _ ⟨rfl, s28.trans s9⟩
      · tm_at "vq"
        tm_at "vx"
        exact kE _ _ ⟨rfl, s28⟩
    rintro σ HT ⟨rfl, s29⟩
    tm_at "vp"
    have a0 := aheadL_nn c d ps x
    refine ⟨b, c, ps, N, d, x, aheadL c d ps x + 1, rfl, sum_same s29 hoG, hsv, eN', d0, hxn, h90, by omega, fun HU s10 => ?_⟩
    rw [decide_eq_true (show aheadL c d ps x < aheadL c d ps x + 1 by omega)]
    tm_at "vp"
    rw [if_neg (by decide)]
    tm_at "vp"
    have emx : (if aheadL c d ps x > 1 then aheadL c d ps x else 1) = max 1 (aheadL c d ps x) := by split <;> omega
    rw [emx]
    refine ⟨b, c, ps, N, d, x, max 1 (aheadL c d ps x), rfl, sum_same (s29.trans s10) hoG, hsv, eN', d0, hxn, h90, by omega, fun HV s11 => ?_⟩
    tm_at "vp"
    rw [decide_eq_true (show decide (aheadL c d ps x < max 1 (aheadL c d ps x)) = decide (aheadL c d ps x < 1) from decide_eq_decide.mpr ⟨fun h => by omega, fun h => by omega⟩)]
    rw [if_neg (by decide)]
    tm_at "vp"
    exact ⟨_, _, _, _, _, _, _, rfl, s29.trans (s10.trans s11)⟩
theorem ok_law {P : Program} {w : World} {K : PySem.W.Frag} {mg : Str → Option Value} {base : Heap} (fr : Fre mg) (D : Dfd K mg "law" s_law)
    (h__law_right : Has P w K mg base CX0 8 "_law_right" s__law_right ["_law_pool_here"] (sp__law_right K))
    (h__law_pool : Has P w K mg base CX0 1 "_law_pool" s__law_pool ["_law_cell_here"] (sp__law_pool K))
    (h__law_cell : Has P w K mg base CX0 1 "_law_cell" s__law_cell ["_law_script", "_law_k"] (sp__law_cell K)) : Has P w K mg base CX0 9 "law" s_law ["_law_script"] (sp_law K) := by
  refine D.has sc_law (fun vs H Q E h => ?_) (fun cdv A outer s H vs Q E hr hg h => ?_)
  · obtain ⟨a, ns, rfl, _⟩ := h; rfl
  · obtain ⟨a, ns, rfl, hs, hn, k⟩ := h
    have nd := sc_law.nd
    refine ⟨_, PSs.nox (pss_one (ps_ret (pe_callB (k_all K rfl) rfl fr.all_ (by decide +kernel) (pa_cons (pe_lc (own := [("_law_k", 1)]) (g := gName 1) (tt := tYes) rfl nd (pi_range1 rfl fr.range_ (pa_cons (pe_callB (c_max2 rfl) rfl fr.max_ (by decide +kernel) (pa_cons pe_int (pa_cons (pe_callB (c_min2 rfl) rfl fr.min_ (by decide +kernel) (pa_cons (pe_callB (k_len K) rfl fr.len_ (by decide +kernel) (pa_cons (pv 0) pa_nil)) (pa_cons pe_int pa_nil))) pa_nil))) pa_nil)) (blkOk_by (own := [("_law_k", 1)]) (N := N_law) (sc := defScope s_law) (by decide +kernel)) (fun _ _ _ _ _ => (pg_name (i := 1) nd rfl (Or.inl rfl))) (fun _ _ _ _ _ => pts_nil) (fun _ _ _ _ _ => (pe_fn h__law_right pb__law_right (hr.mono (by decide)) hg rfl pass0 (pa_cons (pe_fn h__law_pool pb__law_pool (hr.mono (by decide)) hg rfl pass0 (pa_cons (pe_fn h__law_cell pb__law_cell (hr.mono (by decide)) hg rfl pass0 (pa_cons (pv 0) (pa_cons (pv 1) pa_nil))) pa_nil)) pa_nil)))) pa_nil)))), ?_⟩
    try dsimp only [cxOf]
    have s05 : Same H H := Same.refl _
    tm_at "wp"
    refine w_lenL (s05.seq hs) ?_
    tm_at "wp"
    rw [List.length_map]
    refine w_onR1 ⟨by split <;> split <;> omega, by split <;> split <;> omega⟩ ?_
    intro D1 hD1
    refine lc_map walk_range (n := _) (by split <;> split <;> omega) (fun i y => y = .bl true) hD1 (fun _ _ => trivial) ?_ ?_ mono_gname
    · rintro i y H6 H7 hi s6 ⟨rfl, rfl⟩ Qy hq
      have s06 := s05.trans s6
      refine w_gname ⟨rfl, ?_⟩
      tm_at "wp"
      refine ⟨a, ns, _, rfl, s06.seq hs, by omega, by omega, by revert hi; split <;> split <;> omega, fun n H8 s8 => ?_⟩
      tm_at "wp"
      refine ⟨n, rfl, fun p H9 hp s9 hpp => ?_⟩
      tm_at "wp"
      refine ⟨p, rfl, hpp, fun H10 s10 => ?_⟩
      exact hq _ _ ((s8.trans s9).trans s10) rfl
    · intro acc2 H6 s6 _ ha2 hl2 hf2
      have e : acc2 = (List.replicate acc2.length true).map V.bl := by
        refine List.ext_getElem? fun i => ?_
        cases z : acc2[i]? with
        | none => rw [List.getElem?_eq_none (by simpa using List.getElem?_eq_none_iff.mp z)]
        | some y =>
          rw [hf2 i y z]
          obtain ⟨h, _⟩ := List.getElem?_eq_some_iff.mp z
          simp [h]
      rw [e] at ha2
      tm_at "wp"
      refine w_all (SqL.of ha2) ?_
      have e2 : (List.replicate acc2.length true).all id = true := by simp
      rw [e2]
      exact k _
theorem facts {P : Program} {w : World} {K : PySem.W.Frag} {h : Heap} {mg : Str → Option Value} {f : Addr} (X : K.In h) (G : h.Ns mainGlobals mg) (hfa : mg ("law" : Str) = some (.ref f)) (c : He.SaysD fa fn K) (cx : (ex.all fun e => e K) = true) :
    ∃ fd : FuncData, (∀ (s : Shared) (v : Value), BindsTo s fd ⟨[v], []⟩ [("_law_script", v)]) ∧ ∀ base : Heap, FnG P w K mg base CX0 9 f fd ["_law_script"] (sp_law K) := by
  have fr : Fre mg := ⟨He.free_ok X G (c.fact 38 (f := .free "len") rfl), He.free_ok X G (c.fact 39 (f := .free "isinstance") rfl), He.free_ok X G (c.fact 40 (f := .free "range") rfl), He.free_ok X G (c.fact 41 (f := .free "enumerate") rfl), He.free_ok X G (c.fact 42 (f := .free "zip") rfl), He.free_ok X G (c.fact 43 (f := .free "reversed") rfl), He.free_ok X G (c.fact 44 (f := .free "int") rfl), He.free_ok X G (c.fact 45 (f := .free "str") rfl), He.free_ok X G (c.fact 46 (f := .free "bool") rfl), He.free_ok X G (c.fact 47 (f := .free "tuple") rfl), He.free_ok X G (c.fact 48 (f := .free "list") rfl), He.free_ok X G (c.fact 49 (f := .free "dict") rfl), He.free_ok X G (c.fact 50 (f := .free "bytes") rfl), He.free_ok X G (c.fact 51 (f := .free "set") rfl), He.free_ok X G (c.fact 52 (f := .free "sum") rfl), He.free_ok X G (c.fact 53 (f := .free "all") rfl), He.free_ok X G (c.fact 54 (f := .free "any") rfl), He.free_ok X G (c.fact 55 (f := .free "abs") rfl), He.free_ok X G (c.fact 56 (f := .free "min") rfl), He.free_ok X G (c.fact 57 (f := .free "max") rfl), He.free_ok X G (c.fact 58 (f := .free "sorted") rfl), He.free_ok X G (c.fact 59 (f := .free "repr") rfl), He.free_ok X G (c.fact 60 (f := .free "divmod") rfl), He.free_ok X G (c.fact 61 (f := .free "type") rfl), He.free_ok X G (c.fact 62 (f := .free "map") rfl), He.free_ok X G (c.fact 63 (f := .free "iter") rfl), He.free_ok X G (c.fact 64 (f := .free "next") rfl)⟩
  have c_MAX_CAPACITY : ∃ t, mg "MAX_CAPACITY" = some (.int 8 t) := He.int_ok X G (c.fact 65 (f := .int "MAX_CAPACITY" 8) rfl)
  have c_LETTERS : ∃ t, mg "LETTERS" = some (.str "abcdefghijklmnopqrstuvwxyz" t) := He.str_ok X G (c.fact 66 (f := .str "LETTERS" "abcdefghijklmnopqrstuvwxyz") rfl)
  have c_MAX_NAMES : ∃ t, mg "MAX_NAMES" = some (.int 12 t) := He.int_ok X G (c.fact 67 (f := .int "MAX_NAMES" 12) rfl)
  have cl_Summary : ClsF K mg "Summary" ["capacity", "counts", "__bool__"] := clsB_ok X G (ex_at cx 0 rfl)
  have et_Summary___init___0 : ∀ H : Hp, SqT K H (dflA "Summary" "__init__" 0 K) [] := fun H => etupB_ok (ex_at cx 1 rfl) H
  have D_is_whole : Dfd K mg "is_whole" s_is_whole := ⟨c.def_ 0 (d := d_is_whole) rfl, He.glo_ok X G (c.fact 0 (f := .glo "is_whole") rfl)⟩
  have D_is_from : Dfd K mg "is_from" s_is_from := ⟨c.def_ 1 (d := d_is_from) rfl, He.glo_ok X G (c.fact 1 (f := .glo "is_from") rfl)⟩
  have D_is_between : Dfd K mg "is_between" s_is_between := ⟨c.def_ 2 (d := d_is_between) rfl, He.glo_ok X G (c.fact 2 (f := .glo "is_between") rfl)⟩
  have D_is_capacity : Dfd K mg "is_capacity" s_is_capacity := ⟨c.def_ 3 (d := d_is_capacity) rfl, He.glo_ok X G (c.fact 3 (f := .glo "is_capacity") rfl)⟩
  have D_is_name : Dfd K mg "is_name" s_is_name := ⟨c.def_ 4 (d := d_is_name) rfl, He.glo_ok X G (c.fact 4 (f := .glo "is_name") rfl)⟩
  have D_is_run : Dfd K mg "is_run" s_is_run := ⟨c.def_ 5 (d := d_is_run) rfl, He.glo_ok X G (c.fact 5 (f := .glo "is_run") rfl)⟩
  have D_first_invalid : Dfd K mg "first_invalid" s_first_invalid := ⟨c.def_ 6 (d := d_first_invalid) rfl, He.glo_ok X G (c.fact 6 (f := .glo "first_invalid") rfl)⟩
  have D_check_counts : Dfd K mg "check_counts" s_check_counts := ⟨c.def_ 7 (d := d_check_counts) rfl, He.glo_ok X G (c.fact 7 (f := .glo "check_counts") rfl)⟩
  have D_check_capacity : Dfd K mg "check_capacity" s_check_capacity := ⟨c.def_ 8 (d := d_check_capacity) rfl, He.glo_ok X G (c.fact 8 (f := .glo "check_capacity") rfl)⟩
  have D_check_name : Dfd K mg "check_name" s_check_name := ⟨c.def_ 9 (d := d_check_name) rfl, He.glo_ok X G (c.fact 9 (f := .glo "check_name") rfl)⟩
  have D_sum_of : Dfd K mg "sum_of" s_sum_of := ⟨c.def_ 10 (d := d_sum_of) rfl, He.glo_ok X G (c.fact 10 (f := .glo "sum_of") rfl)⟩
  have D_table_of : Dfd K mg "table_of" s_table_of := ⟨c.def_ 11 (d := d_table_of) rfl, He.glo_ok X G (c.fact 11 (f := .glo "table_of") rfl)⟩
  have D_Summary___init__ : DfdM K "Summary" "__init__" "Summary.__init__" s_Summary___init__ [.ref (dflA "Summary" "__init__" 0 K)] := ⟨c.def_ 12 (d := d_Summary___init__) rfl, He.meth_ok (c.fact 12 (f := .meth "Summary" "__init__") rfl)⟩
  have D_Summary_tally : DfdM K "Summary" "tally" "Summary.tally" s_Summary_tally [] := ⟨c.def_ 13 (d := d_Summary_tally) rfl, He.meth_ok (c.fact 13 (f := .meth "Summary" "tally") rfl)⟩
  have D_is_summary : Dfd K mg "is_summary" s_is_summary := ⟨c.def_ 14 (d := d_is_summary) rfl, He.glo_ok X G (c.fact 14 (f := .glo "is_summary") rfl)⟩
  have D_check_summary : Dfd K mg "check_summary" s_check_summary := ⟨c.def_ 15 (d := d_check_summary) rfl, He.glo_ok X G (c.fact 15 (f := .glo "check_summary") rfl)⟩
  have D_check_size : Dfd K mg "check_size" s_check_size := ⟨c.def_ 16 (d := d_check_size) rfl, He.glo_ok X G (c.fact 16 (f := .glo "check_size") rfl)⟩
  have D_reduction_count : Dfd K mg "reduction_count" s_reduction_count := ⟨c.def_ 17 (d := d_reduction_count) rfl, He.glo_ok X G (c.fact 17 (f := .glo "reduction_count") rfl)⟩
  have D_fits : Dfd K mg "fits" s_fits := ⟨c.def_ 18 (d := d_fits) rfl, He.glo_ok X G (c.fact 18 (f := .glo "fits") rfl)⟩
  have D_true_range : Dfd K mg "true_range" s_true_range := ⟨c.def_ 19 (d := d_true_range) rfl, He.glo_ok X G (c.fact 19 (f := .glo "true_range") rfl)⟩
  have D_surely_more : Dfd K mg "surely_more" s_surely_more := ⟨c.def_ 20 (d := d_surely_more) rfl, He.glo_ok X G (c.fact 20 (f := .glo "surely_more") rfl)⟩
  have D_most_ahead : Dfd K mg "most_ahead" s_most_ahead := ⟨c.def_ 21 (d := d_most_ahead) rfl, He.glo_ok X G (c.fact 21 (f := .glo "most_ahead") rfl)⟩
  have D_surely_among : Dfd K mg "surely_among" s_surely_among := ⟨c.def_ 22 (d := d_surely_among) rfl, He.glo_ok X G (c.fact 22 (f := .glo "surely_among") rfl)⟩
  have D__law_cell : Dfd K mg "_law_cell" s__law_cell := ⟨c.def_ 23 (d := d__law_cell) rfl, He.glo_ok X G (c.fact 23 (f := .glo "_law_cell") rfl)⟩
  have D__law_pool : Dfd K mg "_law_pool" s__law_pool := ⟨c.def_ 24 (d := d__law_pool) rfl, He.glo_ok X G (c.fact 24 (f := .glo "_law_pool") rfl)⟩
  have D__law_draw : Dfd K mg "_law_draw" s__law_draw := ⟨c.def_ 25 (d := d__law_draw) rfl, He.glo_ok X G (c.fact 25 (f := .glo "_law_draw") rfl)⟩
  have D__law_words : Dfd K mg "_law_words" s__law_words := ⟨c.def_ 26 (d := d__law_words) rfl, He.glo_ok X G (c.fact 26 (f := .glo "_law_words") rfl)⟩
  have D__law_flat : Dfd K mg "_law_flat" s__law_flat := ⟨c.def_ 27 (d := d__law_flat) rfl, He.glo_ok X G (c.fact 27 (f := .glo "_law_flat") rfl)⟩
  have D__law_held : Dfd K mg "_law_held" s__law_held := ⟨c.def_ 28 (d := d__law_held) rfl, He.glo_ok X G (c.fact 28 (f := .glo "_law_held") rfl)⟩
  have D__law_sum : Dfd K mg "_law_sum" s__law_sum := ⟨c.def_ 29 (d := d__law_sum) rfl, He.glo_ok X G (c.fact 29 (f := .glo "_law_sum") rfl)⟩
  have D__law_loaded : Dfd K mg "_law_loaded" s__law_loaded := ⟨c.def_ 30 (d := d__law_loaded) rfl, He.glo_ok X G (c.fact 30 (f := .glo "_law_loaded") rfl)⟩
  have D__law_dealt : Dfd K mg "_law_dealt" s__law_dealt := ⟨c.def_ 31 (d := d__law_dealt) rfl, He.glo_ok X G (c.fact 31 (f := .glo "_law_dealt") rfl)⟩
  have D__law_first_dealt : Dfd K mg "_law_first_dealt" s__law_first_dealt := ⟨c.def_ 32 (d := d__law_first_dealt) rfl, He.glo_ok X G (c.fact 32 (f := .glo "_law_first_dealt") rfl)⟩
  have D__law_count_ahead : Dfd K mg "_law_count_ahead" s__law_count_ahead := ⟨c.def_ 33 (d := d__law_count_ahead) rfl, He.glo_ok X G (c.fact 33 (f := .glo "_law_count_ahead") rfl)⟩
  have D__law_raised : Dfd K mg "_law_raised" s__law_raised := ⟨c.def_ 34 (d := d__law_raised) rfl, He.glo_ok X G (c.fact 34 (f := .glo "_law_raised") rfl)⟩
  have D__law_pairs_right : Dfd K mg "_law_pairs_right" s__law_pairs_right := ⟨c.def_ 35 (d := d__law_pairs_right) rfl, He.glo_ok X G (c.fact 35 (f := .glo "_law_pairs_right") rfl)⟩
  have D__law_right : Dfd K mg "_law_right" s__law_right := ⟨c.def_ 36 (d := d__law_right) rfl, He.glo_ok X G (c.fact 36 (f := .glo "_law_right") rfl)⟩
  have D_law : Dfd K mg "law" s_law := ⟨c.def_ 37 (d := d_law) rfl, He.glo_ok X G (c.fact 37 (f := .glo "law") rfl)⟩
  have e := hfa.symm.trans D_law.glo
  cases e
  obtain ⟨fd, F⟩ := D_law.ex
  have b := FunD.bindsA (ps := ["_law_script"]) F fun _ _ _ _ _ _ us hl => match us, hl with | [_], _ => rfl
  refine ⟨fd, fun s v => b s [v] rfl, fun base => ?_⟩
  have h__law_draw : Has P w K mg base CX0 1 "_law_draw" s__law_draw ["_law_pool_here", "_law_many"] (sp__law_draw K) := ok__law_draw fr D__law_draw
  have h__law_words : Has P w K mg base CX0 2 "_law_words" s__law_words ["_law_pool_here", "_law_many"] (sp__law_words K) := ok__law_words fr D__law_words h__law_draw
  have h_is_whole : Has P w K mg base CX0 1 "is_whole" s_is_whole ["thing"] (sp_is_whole K) := ok_is_whole fr D_is_whole
  have h_is_between : Has P w K mg base CX0 2 "is_between" s_is_between ["thing", "least", "most"] (sp_is_between K) := ok_is_between fr D_is_between h_is_whole
  have h_is_capacity : Has P w K mg base CX0 3 "is_capacity" s_is_capacity ["thing"] (sp_is_capacity K) := ok_is_capacity fr c_MAX_CAPACITY D_is_capacity h_is_between
  have h_check_capacity : Has P w K mg base CX0 4 "check_capacity" s_check_capacity ["thing"] (sp_check_capacity K) := ok_check_capacity fr D_check_capacity h_is_capacity
  have h_is_from : Has P w K mg base CX0 2 "is_from" s_is_from ["thing", "least"] (sp_is_from K) := ok_is_from fr D_is_from h_is_whole
  have h_is_name : Has P w K mg base CX0 1 "is_name" s_is_name ["thing"] (sp_is_name K) := ok_is_name fr c_LETTERS D_is_name
  have h_is_run : Has P w K mg base CX0 3 "is_run" s_is_run ["thing"] (sp_is_run K) := ok_is_run fr D_is_run h_is_from h_is_name
  have h_first_invalid : Has P w K mg base CX0 4 "first_invalid" s_first_invalid ["thing", "most"] (sp_first_invalid K) := ok_first_invalid fr D_first_invalid h_is_run
  have h_Summary___init__ : HasM P w K mg base CX0 5 "Summary" "__init__" "Summary.__init__" s_Summary___init__ [.ref (dflA "Summary" "__init__" 0 K)] ["self", "capacity", "counts"] (sp_Summary___init__ K) := ok_Summary___init__ fr cl_Summary et_Summary___init___0 D_Summary___init__ h_check_capacity h_first_invalid
  have h__law_sum : Has P w K mg base CX0 1 "_law_sum" s__law_sum ["_law_bag"] (sp__law_sum K) := ok__law_sum fr D__law_sum
  have h__law_held : Has P w K mg base CX0 1 "_law_held" s__law_held ["_law_bag"] (sp__law_held K) := ok__law_held fr D__law_held
  have h__law_flat : Has P w K mg base CX0 1 "_law_flat" s__law_flat ["_law_held_here"] (sp__law_flat K) := ok__law_flat fr D__law_flat
  have h__law_loaded : Has P w K mg base CX0 2 "_law_loaded" s__law_loaded ["_law_held_here", "_law_words_here", "_law_units"] (sp__law_loaded K) := ok__law_loaded fr D__law_loaded h__law_held h__law_flat
  have h__law_dealt : Has P w K mg base CX0 2 "_law_dealt" s__law_dealt ["_law_pool_here", "_law_many", "_law_left", "_law_deep"] (sp__law_dealt K) := ok__law_dealt fr D__law_dealt h__law_draw
  have h_is_summary : Has P w K mg base CX0 1 "is_summary" s_is_summary ["thing"] (sp_is_summary K) := ok_is_summary fr cl_Summary et_Summary___init___0 D_is_summary
  have h_check_summary : Has P w K mg base CX0 2 "check_summary" s_check_summary ["thing"] (sp_check_summary K) := ok_check_summary fr D_check_summary h_is_summary
  have h_sum_of : Has P w K mg base CX0 1 "sum_of" s_sum_of ["pairs"] (sp_sum_of K) := ok_sum_of fr D_sum_of
  have h_check_size : Has P w K mg base CX0 3 "check_size" s_check_size ["summary", "size"] (sp_check_size K) := ok_check_size fr cl_Summary et_Summary___init___0 D_check_size h_check_summary h_sum_of h_is_from
  have h_reduction_count : Has P w K mg base CX0 4 "reduction_count" s_reduction_count ["summary", "size"] (sp_reduction_count K) := ok_reduction_count fr cl_Summary et_Summary___init___0 D_reduction_count h_check_size h_sum_of
  have h_check_counts : Has P w K mg base CX0 5 "check_counts" s_check_counts ["thing"] (sp_check_counts K) := ok_check_counts fr c_MAX_NAMES D_check_counts h_first_invalid
  have h_table_of : Has P w K mg base CX0 1 "table_of" s_table_of ["pairs"] (sp_table_of K) := ok_table_of fr D_table_of
  have h_fits : Has P w K mg base CX0 6 "fits" s_fits ["summary", "size", "counts"] (sp_fits K) := ok_fits fr cl_Summary et_Summary___init___0 D_fits h_reduction_count h_check_counts h_table_of h_sum_of
  have h_check_name : Has P w K mg base CX0 2 "check_name" s_check_name ["thing"] (sp_check_name K) := ok_check_name fr D_check_name h_is_name
  have h_Summary_tally : HasM P w K mg base CX0 3 "Summary" "tally" "Summary.tally" s_Summary_tally [] ["self", "name"] (sp_Summary_tally K) := ok_Summary_tally fr cl_Summary et_Summary___init___0 D_Summary_tally h_check_name h_table_of
  have h_true_range : Has P w K mg base CX0 5 "true_range" s_true_range ["summary", "size", "name"] (sp_true_range K) := ok_true_range fr cl_Summary et_Summary___init___0 D_true_range h_reduction_count h_Summary_tally
  have h__law_raised : Has P w K mg base CX0 3 "_law_raised" s__law_raised ["_law_width", "_law_held_here", "_law_deep", "_law_word"] (sp__law_raised K) := ok__law_raised fr D__law_raised h__law_held h__law_loaded
  have h_most_ahead : Has P w K mg base CX0 5 "most_ahead" s_most_ahead ["summary", "size", "name"] (sp_most_ahead K) := ok_most_ahead fr cl_Summary et_Summary___init___0 D_most_ahead h_reduction_count h_Summary_tally
  have h__law_count_ahead : Has P w K mg base CX0 2 "_law_count_ahead" s__law_count_ahead ["_law_bag", "_law_word"] (sp__law_count_ahead K) := ok__law_count_ahead fr D__law_count_ahead h__law_held
  have h_surely_among : Has P w K mg base CX0 6 "surely_among" s_surely_among ["summary", "size", "name", "number"] (sp_surely_among K) := ok_surely_among fr D_surely_among h_most_ahead h_is_from
  have h_surely_more : Has P w K mg base CX0 5 "surely_more" s_surely_more ["summary", "size", "one", "other"] (sp_surely_more K) := ok_surely_more fr cl_Summary et_Summary___init___0 D_surely_more h_reduction_count h_Summary_tally
  have h__law_first_dealt : Has P w K mg base CX0 1 "_law_first_dealt" s__law_first_dealt ["_law_many", "_law_left", "_law_deep"] (sp__law_first_dealt K) := ok__law_first_dealt fr D__law_first_dealt
  have h__law_pairs_right : Has P w K mg base CX0 7 "_law_pairs_right" s__law_pairs_right ["_law_board", "_law_held_here", "_law_deep", "_law_some", "_law_words_here"] (sp__law_pairs_right K) := ok__law_pairs_right fr cl_Summary et_Summary___init___0 D__law_pairs_right h__law_sum h_surely_more h__law_held h__law_first_dealt h__law_loaded h_fits
  have h__law_right : Has P w K mg base CX0 8 "_law_right" s__law_right ["_law_pool_here"] (sp__law_right K) := ok__law_right fr cl_Summary et_Summary___init___0 D__law_right h__law_words h__law_draw h_Summary___init__ h__law_sum h__law_loaded h__law_dealt h_fits h_true_range h__law_held h__law_raised h_most_ahead h__law_count_ahead h_surely_among h__law_pairs_right
  have h__law_pool : Has P w K mg base CX0 1 "_law_pool" s__law_pool ["_law_cell_here"] (sp__law_pool K) := ok__law_pool fr D__law_pool
  have h__law_cell : Has P w K mg base CX0 1 "_law_cell" s__law_cell ["_law_script", "_law_k"] (sp__law_cell K) := ok__law_cell fr D__law_cell
  have h_law : Has P w K mg base CX0 9 "law" s_law ["_law_script"] (sp_law K) := ok_law fr D_law h__law_right h__law_pool h__law_cell
  exact h_law.fixed F
end TP
open PySem PySem.W PySem.Calls PyProof.Rows
set_option maxRecDepth 100000 in
set_option maxHeartbeats 0 in
theorem PySem.Challenge.cw_tallyplans_k72_whole_sure_statements_holds : PySem.Challenge.rw_tallyplans_k72_whole_sure_statements.Holds := by
  w_on; o_law
  refine HandSHeadRun.head_any (r := OpenLaw.row PySem.Challenge.rw_tallyplans_k72_whole_sure_statements) (q := view (OpenLaw.row PySem.Challenge.rw_tallyplans_k72_whole_sure_statements).prog [64]) (H := TP.hk) (ob := TP.ob) (M := 6000) (loose := TP.loose) (d := HandSHeadRun.topDef (OpenLaw.row PySem.Challenge.rw_tallyplans_k72_whole_sure_statements).prog 64) (kwd := []) TP.ob_eq
    (by kernel_rfl) (fun s => by kernel_rfl) TP.run (by kernel_rfl) (by kernel_rfl) (by kernel_rfl) (by rfl) (by first | assumption | decide +kernel) (by decide +kernel) ⟨rfl, rfl, rfl, rfl, rfl, by decide +kernel⟩ ?hw ?hc
  case hw => w_witness2
  case hc =>
    refine TP.walkG (l := PySem.Challenge.rw_tallyplans_k72_whole_sure_statements) (n := 63) (k := 9) (x := "_law_script") rfl (by decide) (by kernel_rfl) ⟨rfl, by decide, by decide⟩ ?F
    intro w mg fa h Y G hmg0
    obtain ⟨K, KX, c, cx⟩ := Y
    have hmg : mg ("law" : PySem.Str) = some (.ref fa) := by
      have e : (HandSHeadRun.topDef (OpenLaw.row PySem.Challenge.rw_tallyplans_k72_whole_sure_statements).prog 64).name = ("law" : PySem.Str) := by kernel_rfl
      rw [← e]
      exact hmg0
    obtain ⟨fd, hb, hF⟩ := TP.facts (P := (PySem.Challenge.rw_tallyplans_k72_whole_sure_statements).prog) (w := w) KX G hmg c cx
    exact ⟨K, fd, TP.sp_law K, KX, hb, fun H a ns hl hS => ⟨a, ns, rfl, hS, hl, fun _ => rfl⟩, fun base _ _ => hF base⟩
