import PyProof.Rows.All
import Wide.All
import OpenK.AllK
import Wide.FinOn
import KE.KStateDown
import HandS.ForMost
import HandS.More
import HandS.Flow
import HandS.Style
import HandS.Wide
import HandS.WideBits
import HandS.IsInst
import HandS.Defaults
import HandS.FStr
import HandS.DictComp
import HandS.Walk
import HandS.Exc
import HandS.WordsExc
import HandS.Head0
import HandS.Head1
import HandS.Head2
import HandS.HeadEnd
import HandS.HeadHook1
import HandS.HeadHook2
import PyProof.ReprRoads
import KE.GoesEnum
import KE.GoesMore
import HandS.TupAny
import HandS.RaiseMore
import PyProof.StrLawsRepr
import PyProof.StrOps2
import PyProof.StrBlockL
import PyProof.Rows.RegStrFacts
import HandS.MakeKw
import HandS.TupMul
import HandS.SortKw
import OpenK.KOps
import KE.KCallOwn
import KE.KEqDict
import HandS.TupSets
import KE.KSortTupAny
import PyProof.InstNe
import HandS.Text
import KE.DataMinMax
import HandS.Lambda
import HandS.ExcInit
import HandS.ExcIs
import HandS.ExcField
import HandS.HotCalls
import HandS.EndTab
import HandS.HeadHook4
import HandS.SetFor
import HandS.TryOnly
import HandS.Strs
import PySem.Challenge.RW_tallyplans_k43_merge_plans
set_option Elab.async false
set_option linter.all false
set_option maxRecDepth 100000
set_option maxHeartbeats 4000000
namespace TP
open PySem PySem.Spec PyProof.Rows L2
/-! ### a def that is called where no repr is under way -/
structure FnG (P : Program) (w : World) (K : PySem.W.Frag) (mg : Str → Option Value) (base : Heap) (CX : CXT) (k : Nat) (f : Addr) (fd : FuncData) (ps : List Str) (sp : Sp) : Prop where
  len : ∀ vs H Q E, sp vs H Q E → vs.length = ps.length
  run : ∀ (A : Around) (outer : List Env) (s : Shared) (H : Hp) (args : Args) (us : List Value) (vs : List V) (Q : VK) (E : XK), Room k A → A.guards = some [] →
    Env0 P w K mg base A outer s H → BindsTo s fd args (ps.zip us) → Vals vs us → sp vs H Q E → codeAny (model P w) A (.call (.ref f) args) (CR CX outer P w H s Q E) s
section
variable {P : Program} {w : World} {K : PySem.W.Frag} {mg : Str → Option Value} {base : Heap} {CX : CXT} {j k : Nat} {f : Addr} {fd : FuncData} {ps : List Str} {sp sp' : Sp}
theorem FnG.imp (F : FnG P w K mg base CX k f fd ps sp) (h : ∀ vs H Q E, sp' vs H Q E → sp vs H Q E) : FnG P w K mg base CX k f fd ps sp' :=
  ⟨fun vs H Q E q => F.len vs H Q E (h _ _ _ _ q), fun A outer s H args us vs Q E hr hg e b r q => F.run A outer s H args us vs Q E hr hg e b r (h _ _ _ _ q)⟩
end
/-- the rule for a def, its body told with what is around it -/
theorem fnG_of {CX : CXT} {P : Program} {w : World} {K : PySem.W.Frag} {mg : Str → Option Value} {base : Heap} {k : Nat} {f : Addr} {x qual : Str} {params : Arguments} {body : List Stmt} {scope : Scope} {dvs : List V} {kws : List (Str × V)} {fd : FuncData} {N ps : List Str} {sp : Sp}
    (F : FunD K x qual params body scope dvs kws f fd) (S : FnScope N ps scope) (len : ∀ vs H Q E, sp vs H Q E → vs.length = ps.length)
    (hbody : ∀ (cdv : Value) (A : Around) (outer : List Env) (s : Shared) (H : Hp) (vs : List V) (Q : VK) (E : XK), Room k (A.deeper (envOfC qual scope s.heap.objs.size f cdv)) → (A.deeper (envOfC qual scope s.heap.objs.size f cdv)).guards = some [] → sp vs H Q E →
      ∃ t, PSs (cxOf CX P w K mg base N qual scope f cdv A outer s H E) body t ∧ t { nx := fun _ H' => Q .non H', rt := Q } (start N vs) H) :
    FnG P w K mg base CX (k + 1) f fd ps sp := by
  obtain ⟨oc, od, dV, kV, doc, pm, an, cdv, ct, osl, rfl, lk, hcd, _, _⟩ := F.ex
  refine ⟨len, fun A outer s H args us vs Q E hr hg e0 hb r hsp => ?_⟩
  have hl := len _ _ _ _ hsp
  have kx : K.In s.heap := e0.mod.kin.keeps fun b o e => (e0.bs b o e).1
  have nl : s.heap.NoLimit := e0.mod.nolimit.keeps fun b o e => (e0.bs b o e).1
  refine codeAny_call_function hr.depth (kx _ _ lk) rfl S.co S.gen rfl (PySem.W.codeRec_of kx hcd) (hb _ _ _ _ ?_)
  refine wpAny_newFunctionEnv_cells S.kind (fun ⟨n, v⟩ hy => by
    rcases S.par n (List.of_mem_zip hy).1 with q | q
    · exact .inl q
    · exact .inr ⟨q, PySem.W.cellsFrom_some _ _ _ (.inl q)⟩) fun env he s1 ic => ?_
  subst he
  refine ⟨nl.keeps ic.toInCall.keep, codeAny_func ?_⟩
  obtain ⟨t, ht, hq⟩ := hbody cdv A outer s H vs Q E (hr.deeper _) hg hsp
  have I0 := inv_start (CX := CX) (E := E) S hr.hd e0 hl r ic
  refine wpAny_mono (ht.run [] s1 (start N vs) H _ I0 hq) (fun fl s' hs => ?_) fun e s' hs => hs
  cases fl with
  | ret u =>
    obtain ⟨v, σ', H', J, rv, q⟩ := hs
    exact ⟨v, H', J.os, J.bare, J.base, J.hok, rv, q⟩
  | next =>
    obtain ⟨σ', H', J, q⟩ := hs
    exact ⟨.non, H', J.os, J.bare, J.base, J.hok, rfl, q⟩
  | brk =>
    obtain ⟨_, _, _, q⟩ := hs
    exact q.elim
  | cont =>
    obtain ⟨_, _, _, q⟩ := hs
    exact q.elim
/-! ### a def of the module, by its name -/
structure Has (P : Program) (w : World) (K : PySem.W.Frag) (mg : Str → Option Value) (base : Heap) (CX : CXT) (k : Nat) (x : Str) (st : Stmt) (ps : List Str) (sp : Sp) : Prop where
  ex : ∃ fd, FunD K x x (defArgs st) (defBody st) (defScope st) [] [] (He.ga K x) fd ∧ FnG P w K mg base CX k (He.ga K x) fd ps sp
  glo : mg x = some (.ref (He.ga K x))
/-- what the head tells of a def -/
structure Dfd (K : PySem.W.Frag) (mg : Str → Option Value) (x : Str) (st : Stmt) : Prop where
  ex : ∃ fd, FunD K x x (defArgs st) (defBody st) (defScope st) [] [] (He.ga K x) fd
  glo : mg x = some (.ref (He.ga K x))
section
variable {P : Program} {w : World} {K : PySem.W.Frag} {mg : Str → Option Value} {base : Heap} {CX : CXT} {k j : Nat} {x : Str} {st : Stmt} {N ps : List Str} {sp sp' : Sp}
theorem Dfd.has (D : Dfd K mg x st) (S : FnScope N ps (defScope st)) (len : ∀ vs H Q E, sp vs H Q E → vs.length = ps.length)
    (hbody : ∀ (cdv : Value) (A : Around) (outer : List Env) (s : Shared) (H : Hp) (vs : List V) (Q : VK) (E : XK), Room k (A.deeper (envOfC x (defScope st) s.heap.objs.size (He.ga K x) cdv)) → (A.deeper (envOfC x (defScope st) s.heap.objs.size (He.ga K x) cdv)).guards = some [] → sp vs H Q E →
      ∃ t, PSs (cxOf CX P w K mg base N x (defScope st) (He.ga K x) cdv A outer s H E) (defBody st) t ∧ t { nx := fun _ H' => Q .non H', rt := Q } (start N vs) H) :
    Has P w K mg base CX (k + 1) x st ps sp := by
  obtain ⟨fd, F⟩ := D.ex
  exact ⟨⟨fd, F, fnG_of F S len hbody⟩, D.glo⟩
theorem Has.imp (h : Has P w K mg base CX k x st ps sp) (i : ∀ vs H Q E, sp' vs H Q E → sp vs H Q E) : Has P w K mg base CX k x st ps sp' := by
  obtain ⟨fd, F, G⟩ := h.ex
  exact ⟨⟨fd, F, G.imp i⟩, h.glo⟩
end
section
variable {X : Cx} {CX : CXT} {k : Nat} {f : Addr} {fd : FuncData} {ps ks : List Str} {sp : Sp} {E : XK} {x : Str} {st : Stmt} {p pos : Pos} {e : Expr} {es : List Expr} {kws : List Keyword} {t tk : TA}
/-- how positional values bind where no default stands -/
def PosB (x : Str) (st : Stmt) (ps : List Str) : Prop := ∀ (kV doc pm : Value) (an : Option Addr) (cdv ct : Value) (us : List Value), us.length = ps.length →
  bindArgs (PySem.W.fnOf x x (defArgs st) (defBody st) (defScope st) .none kV doc pm an cdv ct) ⟨us, []⟩ = pure (ps.zip us)
/-- .. and keywords -/
def KwB (x : Str) (st : Stmt) (ps : List Str) (n : Nat) (ks : List Str) (g : {α : Type} → List α → List α → List α) : Prop := ∀ (kV doc pm : Value) (an : Option Addr) (cdv ct : Value) (us ws : List Value), us.length = n → ws.length = ks.length →
  bindArgs (PySem.W.fnOf x x (defArgs st) (defBody st) (defScope st) .none kV doc pm an cdv ct) ⟨us, ks.zip ws⟩ = pure (ps.zip (g us ws))
/-- f(e, .., k = v, ..) -/
def tCallW (sp : Sp) (n m : Nat) (g : {α : Type} → List α → List α → List α) (E : XK) (t tk : TA) : TE := fun σ H Q => t σ H fun vs H1 => tk σ H1 fun zs H2 => vs.length = n ∧ zs.length = m ∧ sp (g vs zs) H2 Q E
end
/-! ### the end of a law -/
section
variable {P : Program} {w : World} {K : PySem.W.Frag} {mg mb : Str → Option Value} {k : Nat} {fa a : Addr} {fd : FuncData} {x : Str} {sp : Sp} {s₁ : Shared} {vs : List Value} {ns : List Int}
end
end TP

namespace TP
open PySem PySem.Spec PyProof.Rows L2
/-! ### heaps -/
section
variable {H H' H1 : Hp} {p q : Addr} {o u : HO}
theorem hp_new (h : H p = some o) (hq : H q = none) : upd H q u p = some o := (upd_ne (ne_of_none h hq)).trans h
theorem same_new (hq : H q = none) : Same H (upd H q u) := fun b o h => hp_new h hq
end
/-- all but what stands at l is as it was -/
def SameB (l : Addr) (H H' : Hp) : Prop := ∀ b o, b ≠ l → H b = some o → H' b = some o
theorem SameB.trans {l : Addr} {H H1 H2 : Hp} (a : SameB l H H1) (b : SameB l H1 H2) : SameB l H H2 := fun c o n h => b c o n (a c o n h)
theorem SameB.upd {l : Addr} {H : Hp} {u : HO} : SameB l H (upd H l u) := fun b o n h => (upd_ne n).trans h
/-- tuples (and what is known of the script) are as they were -/
def SameT (H H' : Hp) : Prop := ∀ a o, H a = some o → (∀ xs, o ≠ .lst xs) → (∀ kvs, o ≠ .dK kvs) → H' a = some o
theorem same_t {H H' : Hp} (s : Same H H') : SameT H H' := fun a o h _ _ => s a o h
theorem SameT.trans {H H1 H2 : Hp} (a : SameT H H1) (b : SameT H1 H2) : SameT H H2 := fun c o h n m => b c o (a c o h n m) n m
theorem SameT.lst {H : Hp} {l : Addr} {xs : List V} {u : HO} (h : H l = some (.lst xs)) : SameT H (upd H l u) := fun a o e n _ => by
  by_cases z : a = l
  · subst z; rw [h] at e; cases e; exact absurd rfl (n xs)
  · exact (upd_ne z).trans e
theorem SameT.new {H : Hp} {l : Addr} {u : HO} (h : H l = none) : SameT H (upd H l u) := same_t (same_new h)
theorem SameT.sqt {K : PySem.W.Frag} {H H' : Hp} {a : Addr} {xs : List V} (s : SameT H H') (h : SqT K H a xs) : SqT K H' a xs := by
  rcases h with (h | ⟨o, h⟩) | h
  · exact .inl (.inl (s _ _ h (fun _ => nofun) fun _ => nofun))
  · exact .inl (.inr ⟨o, s _ _ h (fun _ => nofun) fun _ => nofun⟩)
  · exact .inr h
theorem sqt_same {K : PySem.W.Frag} {H H' : Hp} {a : Addr} {xs : List V} (s : Same H H') (h : SqT K H a xs) : SqT K H' a xs := (same_t s).sqt h
/-! ### data -/
mutual
theorem dp_same {K : PySem.W.Frag} {H H' : Hp} (s : Same H H') : ∀ {v : V} {d : PyData}, Dp K H v d → Dp K H' v d
  | _, _, .non => .non
  | _, _, .bl b => .bl b
  | _, _, .int i => .int i
  | _, _, .str x => .str x
  | _, _, .lst h r => .lst (s.seq h) (dps_same s r)
  | _, _, .tup h r => .tup (sqt_same s h) (dps_same s r)
theorem dps_same {K : PySem.W.Frag} {H H' : Hp} (s : Same H H') : ∀ {vs : List V} {ds : List PyData}, DpAll K H vs ds → DpAll K H' vs ds
  | _, _, .nil => .nil
  | _, _, .cons h r => .cons (dp_same s h) (dps_same s r)
end
mutual
/-- no list within -/
def flatD : PyData → Bool
  | .list _ => false
  | .dict _ => false
  | .tuple ds => flatDs ds
  | _ => true
def flatDs : List PyData → Bool
  | [] => true
  | d :: r => flatD d && flatDs r
end
mutual
theorem dp_flat {K : PySem.W.Frag} {H H' : Hp} (s : SameT H H') : ∀ {v : V} {d : PyData}, Dp K H v d → flatD d = true → Dp K H' v d
  | _, _, .non, _ => .non
  | _, _, .bl b, _ => .bl b
  | _, _, .int i, _ => .int i
  | _, _, .str x, _ => .str x
  | _, _, .lst h r, f => by simp [flatD] at f
  | _, _, .tup h r, f => .tup (s.sqt h) (dps_flat s r (by simpa [flatD] using f))
theorem dps_flat {K : PySem.W.Frag} {H H' : Hp} (s : SameT H H') : ∀ {vs : List V} {ds : List PyData}, DpAll K H vs ds → flatDs ds = true → DpAll K H' vs ds
  | _, _, .nil, _ => .nil
  | _, _, .cons h r, f => by
    have f2 := Bool.and_eq_true_iff.mp (show (flatD _ && flatDs _) = true from f)
    exact .cons (dp_flat s h f2.1) (dps_flat s r f2.2)
end
section
variable {K : PySem.W.Frag} {H : Hp}
end
/-! ### readings, one step at a time -/
section
variable {σ : L2.St} {H : Hp} {Q : VK} {QB : Bool → Hp → Prop} {QA : List V → Hp → Prop} {QO : Option Int → Hp → Prop} {ta tb tc te : TE} {tt tu : TT} {tr : TA} {D : Ends} {s t u : TS} {g : TG} {gs : TGs} {r r' : R2} {v x y : V} {E : XK} {sp : Sp}
def AllocT (xs : List V) (H : Hp) (Q : VK) : Prop := xs.length ≤ sizeLine ∧ ∀ p, H p = none → Q (.ref p) (upd H p (.tup xs))
def AllocL (xs : List V) (H : Hp) (Q : VK) : Prop := xs.length ≤ sizeLine ∧ ∀ p, H p = none → Q (.ref p) (upd H p (.lst xs))
def BlC (H : Hp) (v : V) (k : Bool → Prop) : Prop := ∃ c, v = .bl c ∧ k c
/-! methods of built-ins -/
end
end TP

namespace PySem
open Sem (wp)
end PySem
namespace TP
open PySem PySem.Spec PyProof.Rows L2
/-! ### enumerate of a tuple -/
def IteT (K : PySem.W.Frag) (a : Addr) : It :=
  ⟨fun i H => ∃ xs x, SqT K H a xs ∧ xs[i]? = some x, fun i H v H' => ∃ T x, v = .ref T ∧ H T = none ∧ H' = upd H T (.tup [.int (i : Nat), x]) ∧ ∀ xs, SqT K H a xs → xs[i]? = some x, fun i H => ∃ xs, SqT K H a xs ∧ xs.length = i⟩
def iEnumT (K : PySem.W.Frag) (ta : TA) : TI := fun σ H R => ta σ H fun vs H1 => ∃ a xs, vs = [.ref a] ∧ SqT K H1 a xs ∧ R (IteT K a) H1
end TP

namespace TP
open PySem PySem.Spec PyProof.Rows L2
/-! ### repr -/
mutual
/-- a bound of the shown text; 0 is never one -/
def rb : PyData → Nat
  | .none => 5
  | .bool _ => 5
  | .int _ => 1921
  | .str x => 10 * x.length + 2
  | .list ds => rbs ds + 2
  | .tuple ds => rbs ds + 3
  | .dict _ => 0
def rbs : List PyData → Nat
  | [] => 0
  | d :: r => rb d + 2 + rbs r
end
mutual
/-- ints of at most 1920 bits, texts of plain codes, no dict -/
def okD : PyData → Bool
  | .none => true
  | .bool _ => true
  | .int i => decide (i.natAbs.log2 < 1920)
  | .str x => x.cps.toList.all fun c => decide (c < 16 ^ 8)
  | .list ds => okDs ds
  | .tuple ds => okDs ds
  | .dict _ => false
def okDs : List PyData → Bool
  | [] => true
  | d :: r => okD d && okDs r
end
theorem str_app_len (a b : Str) : (a ++ b).length = a.length + b.length := PySem.Str.length_append a b
theorem textFrom_le : ∀ (ts : List Str) (k : Nat) (acc : Str), (textFrom k acc ts).length ≤ acc.length + (ts.map fun t => t.length + 2).sum
  | [], k, acc => by simp [textFrom]
  | t :: r, k, acc => by
    have ih := textFrom_le r (k + 1) (acc ++ (if k > 0 then ", " else "" : String) ++ t)
    rw [str_app_len, str_app_len] at ih
    have e : (Str.ofString (if k > 0 then ", " else "" : String)).length ≤ 2 := by
      by_cases h : k > 0
      · rw [if_pos h]; decide
      · rw [if_neg h]; decide
    simp only [List.map_cons, List.sum_cons]
    show (textFrom (k + 1) _ r).length ≤ _
    omega
mutual
theorem shown_le : ∀ d : PyData, okD d = true → d.shown.length ≤ rb d
  | .none, _ => by simp only [PyData.shown, rb]; decide
  | .bool b, _ => by cases b <;> simp only [PyData.shown, rb] <;> decide
  | .int i, h => by
    have h' : i.natAbs.log2 < 1920 := of_decide_eq_true (by simpa [okD] using h)
    simp only [PyData.shown, rb]
    exact int_text_len_1921 h'
  | .str x, h => by
    simp only [PyData.shown, rb]
    refine PySem.StrLaws.reprText_len x fun c hc => ?_
    have h' := List.all_eq_true.mp (by simpa only [okD] using h) c hc
    exact of_decide_eq_true h'
  | .list ds, h => by
    have ih := shownAll_le ds (by simpa [okD] using h)
    simp only [PyData.shown, rb, listText]
    have h1 := textFrom_le (PyData.shownAll ds) 0 "["
    rw [str_app_len]
    have e1 : (Str.ofString "[").length = 1 := by decide
    have e2 : (Str.ofString "]").length = 1 := by decide
    rw [e1] at h1
    rw [e2]
    omega
  | .tuple ds, h => by
    have ih := shownAll_le ds (by simpa [okD] using h)
    simp only [PyData.shown, rb, tupleText]
    rw [str_app_len, str_app_len]
    have h1 := StrLaws.join_length_le (Str.ofString ", ") (PyData.shownAll ds)
    have e0 : (Str.ofString ", ").length = 2 := by decide
    rw [e0] at h1
    have e1 : (Str.ofString "(").length = 1 := by decide
    have e2 : (Str.ofString (if ((PyData.shownAll ds).length == 1) = true then ",)" else ")")).length ≤ 2 := by
      by_cases z : ((PyData.shownAll ds).length == 1) = true
      · rw [if_pos z]; decide
      · rw [if_neg z]; decide
    have e3 : ((PyData.shownAll ds).map fun t => t.length + 2).sum = ((PyData.shownAll ds).map (·.length)).sum + (PyData.shownAll ds).length * 2 := by
      generalize PyData.shownAll ds = l
      induction l with
      | nil => rfl
      | cons a r ih2 => simp only [List.map_cons, List.sum_cons, List.length_cons]; omega
    rw [e1]
    omega
  | .dict _, h => by simp [okD] at h
theorem shownAll_le : ∀ ds : List PyData, okDs ds = true → ((PyData.shownAll ds).map fun t => t.length + 2).sum ≤ rbs ds
  | [], _ => by simp [PyData.shownAll, rbs]
  | d :: r, h => by
    have h' := Bool.and_eq_true_iff.mp (show (okD d && okDs r) = true from h)
    have h1 := shown_le d h'.1
    have h2 := shownAll_le r h'.2
    simp only [PyData.shownAll, rbs, List.map_cons, List.sum_cons]
    omega
end
mutual
theorem showable_of : ∀ d : PyData, okD d = true → d.showable = true ∧ d.hasDict = false
  | .none, _ => by simp [PyData.showable, PyData.hasDict]
  | .bool b, _ => by simp [PyData.showable, PyData.hasDict]
  | .int i, h => by simp only [PyData.showable, PyData.hasDict]; exact ⟨by simpa [okD] using h, trivial⟩
  | .str x, _ => by simp [PyData.showable, PyData.hasDict]
  | .list ds, h => by
    have ih := showables_of ds (by simpa [okD] using h)
    simp only [PyData.showable, PyData.hasDict]; exact ih
  | .tuple ds, h => by
    have ih := showables_of ds (by simpa [okD] using h)
    simp only [PyData.showable, PyData.hasDict]; exact ih
  | .dict _, h => by simp [okD] at h
theorem showables_of : ∀ ds : List PyData, okDs ds = true → PyData.showableAll ds = true ∧ PyData.hasDictAll ds = false
  | [], _ => by simp [PyData.showableAll, PyData.hasDictAll]
  | d :: r, h => by
    have h' := Bool.and_eq_true_iff.mp (show (okD d && okDs r) = true from h)
    have h1 := showable_of d h'.1
    have h2 := showables_of r h'.2
    simp [PyData.showableAll, PyData.hasDictAll, h1, h2]
end
/-- what may be shown -/
structure Shows (d : PyData) : Prop where
  ok : okD d = true
  len : rb d ≤ 16777216
  deep : d.depth ≤ 60
def rRepr (K : PySem.W.Frag) : List V → Hp → VK → Prop := fun xs H Q => ∃ v d, xs = [v] ∧ Dp K H v d ∧ Shows d ∧ Q (.str d.shown) H
/-! ### isinstance -/
def tyD : PyData → String
  | .none => "NoneType"
  | .bool _ => "bool"
  | .int _ => "int"
  | .str _ => "str"
  | .list _ => "list"
  | .tuple _ => "tuple"
  | .dict _ => "dict"
theorem ty_dp {K : PySem.W.Frag} {H : Hp} {v : V} {d : PyData} (h : Dp K H v d) : TyX K H v (.type (tyD d)) := by
  cases h with
  | non => exact .base .non
  | bl b => exact .base (.bl b)
  | int i => exact .base (.int i)
  | str x => exact .base (.str x)
  | lst h _ =>
    rcases h with (h | ⟨o, h⟩) | ⟨o, its, n, h, c, _⟩
    · exact .base (.lst h)
    · exact .base (.frz h)
    · exact .kList h c
  | tup h _ =>
    rcases h with (h | ⟨o, h⟩) | ⟨o, its, n, h, c, _⟩
    · exact .base (.tup h)
    · exact .fTuple h
    · exact .kTuple h c
/-! ### a text times a number -/
def repS (n : Nat) (x : Str) : Str := ⟨((List.replicate n x.cps.toList).flatten).toArray⟩
end TP

namespace TP
open PySem PySem.Spec PyProof.Rows L2
/-! ### a pool of draws: a list of three ints, known only so far as every draw keeps it -/
def PoolV (s d c : Int) : Prop := 0 ≤ s ∧ s < 1000000007 ∧ 0 ≤ d ∧ 0 ≤ c
def PoolAt (p : Addr) (h : Heap) : Prop := ∃ (s d c : Int) (its : List Value) (n : Nat), Vals [.int s, .int d, .int c] its ∧ PoolV s d c ∧ h.get? p = some { cls := .type "list", data := .seq its.toArray n }
def poolO (p : Addr) : HO := .ext (PoolAt p)
section
variable {P : Program} {w : World} {H H0 : Hp} {h h' : Heap} {p : Addr}
end
/-- draw(pool, many), by what stands in the list -/
def spDrawC : Sp := fun vs H Q _ => ∃ (p : Addr) (s d c m : Int), vs = [.ref p, .int m] ∧ H p = some (.lst [.int s, .int d, .int c]) ∧ PoolV s d c ∧ 0 < m ∧ m < 2 ^ 200 ∧
  ∀ (r s' d' c' : Int) (H' : Hp), 0 ≤ r → r < m → SameB p H H' → H' p = some (.lst [.int s', .int d', .int c']) → PoolV s' d' c' → Q (.int r) H'
/-- .. by what may be known of it -/
def spDraw : Sp := fun vs H Q _ => ∃ (p : Addr) (m : Int), vs = [.ref p, .int m] ∧ H p = some (poolO p) ∧ 0 < m ∧ m < 2 ^ 200 ∧
  ∀ (r : Int) (H' : Hp), 0 ≤ r → r < m → Same H H' → Q (.int r) H'
def spPoolC : Sp := fun vs H Q _ => ∃ n : Int, vs = [.int n] ∧ ∀ (p : Addr) (s d c : Int) (H' : Hp), H p = none → Same H H' → H' p = some (.lst [.int s, .int d, .int c]) → PoolV s d c → Q (.ref p) H'
def spPool : Sp := fun vs H Q _ => ∃ n : Int, vs = [.int n] ∧ ∀ (p : Addr) (H' : Hp), H p = none → Same H H' → H' p = some (poolO p) → Q (.ref p) H'
section
variable {P : Program} {w : World} {K : PySem.W.Frag} {mg : Str → Option Value} {base : Heap} {k : Nat} {f : Addr} {fd : FuncData} {ps : List Str}
end
section
variable {P : Program} {w : World} {K : PySem.W.Frag} {mg : Str → Option Value} {base : Heap} {k : Nat} {x : Str} {st : Stmt} {ps : List Str}
end
/-! ### loops and comprehensions over what is walked -/
section
variable {J : It} {n : Nat} {G : Hp → Prop} {Y : Nat → Hp → V → Hp → Prop} {g : TG} {tt : TT} {te : TE} {vs : List Nat} {σ : L2.St} {H1 : Hp} {D : Addr} {Q : VK}
end
end TP

namespace TP
open PySem PySem.Spec PyProof.Rows L2
/-! ### loops and comprehensions, in parts -/
def ForOk (J : It) (g : TG) (tb : TS) (D : Ends) (σ : L2.St) (H : Hp) : Prop := ∃ W : Nat → Nat → L2.St → Hp → Prop, (∃ m, W 0 m σ H) ∧ ∀ i m σ H, W i m σ H →
  (J.stop i H ∧ D.nx σ H) ∨ (J.go i H ∧ ∃ N : L2.St → Hp → Prop, (∀ σ' H', N σ' H' → ∃ m', m' < m ∧ W (i + 1) m' σ' H') ∧ ∀ x H', J.yld i H x H' → g x σ H' fun σ2 H2 => tb { D with nx := N, ct := N, bk := D.nx } σ2 H2)
def LcI (H1 : Hp) (D : Addr) (Acc : Nat → List V → Hp → Prop) (i : Nat) (H : Hp) : Prop := ∃ acc, Same H1 H ∧ H D = some (.lst acc) ∧ acc.length ≤ i ∧ Acc i acc H
def LcY (H1 : Hp) (D : Addr) (Acc : Nat → List V → Hp → Prop) (i : Nat) (y : V) (H : Hp) : Prop := ∃ acc, H D = some (.lst acc) ∧ acc.length < sizeLine ∧ LcI H1 D Acc (i + 1) (upd H D (.lst (acc ++ [y])))
def LcOk (J : It) (g : TG) (tt : TT) (te : TE) (vs : List Nat) (σ : L2.St) (H1 : Hp) (D : Addr) (Q : VK) : Prop := ∃ W : Nat → Nat → Hp → Prop, (∃ m, W 0 m (upd H1 D (.lst []))) ∧ ∀ i m H, W i m H →
  (J.stop i H ∧ Q (.ref D) H) ∨ (J.go i H ∧ ∃ Nx : Hp → Prop, (∀ H', Nx H' → ∃ m', m' < m ∧ W (i + 1) m' H') ∧ ∀ x H', J.yld i H x H' → g x (wipe σ vs) H' fun σ2 H2 => wipe σ2 vs = wipe σ vs ∧ tt σ2 H2 fun b H3 =>
    if b = true then te σ2 H3 fun y H4 => ∃ acc, H4 D = some (.lst acc) ∧ acc.length < sizeLine ∧ Nx (upd H4 D (.lst (acc ++ [y]))) else Nx H3)
section
variable {J : It} {n : Nat} {G : Hp → Prop} {Y : Nat → Hp → V → Hp → Prop} {g : TG} {tt : TT} {te : TE} {tb : TS} {De : Ends} {wi : TI} {vs : List Nat} {σ : L2.St} {H H1 H2 : Hp} {D : Addr} {Q : VK} {Acc : Nat → List V → Hp → Prop} {K : PySem.W.Frag}
/-! what is walked -/
def OnT (K : PySem.W.Frag) (R : It → Hp → Prop) (v : V) (H : Hp) : Prop := ∃ a, v = .ref a ∧ (∃ xs, SqT K H a xs) ∧ R (Itt K a) H
def OnL (K : PySem.W.Frag) (R : It → Hp → Prop) (v : V) (H : Hp) : Prop := ∃ a, v = .ref a ∧ (∃ xs, SqL K H a xs) ∧ R (Itl K a) H
def OnS (R : It → Hp → Prop) (v : V) (H : Hp) : Prop := ∃ x, v = .str x ∧ R (Its x) H
def OnR1 (R : It → Hp → Prop) (vs : List V) (H : Hp) : Prop := ∃ j : Int, vs = [.int j] ∧ -(2 ^ 62) ≤ j ∧ j < 2 ^ 62 ∧ R (Itr 0 j.toNat) H
def OnR2 (R : It → Hp → Prop) (vs : List V) (H : Hp) : Prop := ∃ i j : Int, vs = [.int i, .int j] ∧ (-(2 ^ 62) ≤ i ∧ i < 2 ^ 62 ∧ -(2 ^ 62) ≤ j ∧ j < 2 ^ 62) ∧ R (Itr i (j - i).toNat) H
def OnE (K : PySem.W.Frag) (R : It → Hp → Prop) (vs : List V) (H : Hp) : Prop := ∃ a xs, vs = [.ref a] ∧ SqT K H a xs ∧ R (IteT K a) H
variable {R : It → Hp → Prop} {ta : TA} {a : Addr} {xs : List V}
end
/-! ### built-ins, their readings by names -/
def rLenV (K : PySem.W.Frag) : List V → Hp → VK → Prop := fun xs H Q => ∃ x n, xs = [x] ∧ LenV K x H n ∧ Q (.int n) H
def rAbs : List V → Hp → VK → Prop := fun xs H Q => ∃ i, xs = [.int i] ∧ Q (.int (if i < 0 then -i else i)) H
def rMx2 : List V → Hp → VK → Prop := fun xs H Q => ∃ i j, xs = [.int i, .int j] ∧ Q (.int (if j > i then j else i)) H
def rMn2 : List V → Hp → VK → Prop := fun xs H Q => ∃ i j, xs = [.int i, .int j] ∧ Q (.int (if j < i then j else i)) H
def rInt1 : List V → Hp → VK → Prop := fun xs H Q => (∃ i, xs = [.int i] ∧ Q (.int i) H) ∨ ∃ k, xs = [.bl k] ∧ Q (.int (if k then 1 else 0)) H
def rListS (K : PySem.W.Frag) : List V → Hp → VK → Prop := fun xs H Q => ∃ p ys, xs = [.ref p] ∧ (SqL K H p ys ∨ SqT K H p ys) ∧ ∀ l, H l = none → Q (.ref l) (upd H l (.lst ys))
def rTupS (K : PySem.W.Frag) : List V → Hp → VK → Prop := fun xs H Q => ∃ p ys, xs = [.ref p] ∧ ((SqL K H p ys ∧ ∀ l, H l = none → Q (.ref l) (upd H l (.tup ys))) ∨ (SqT K H p ys ∧ Q (.ref p) H))
def rDivW : List V → Hp → VK → Prop := fun xs H Q => ∃ i j, xs = [.int i, .int j] ∧ CDivP i j ∧ ∀ p, H p = none → Q (.ref p) (upd H p (.tup [.int (i / j), .int (i % j)]))
def rInSign : R2 := fun x y H Q => ∃ (c : Nat) (z : Str), x = .str ⟨#[c]⟩ ∧ y = .str z ∧ Q (.bl (decide (c ∈ z.cps.toList))) H
def rNotInSign : R2 := fun x y H Q => ∃ (c : Nat) (z : Str), x = .str ⟨#[c]⟩ ∧ y = .str z ∧ Q (.bl (!decide (c ∈ z.cps.toList))) H
def rIsN : R2 := fun x y H Q => y = .non ∧ Q (.bl (decide (x = .non))) H
def rNotN : R2 := fun x y H Q => y = .non ∧ Q (.bl (!decide (x = .non))) H
def rLtS : R2 := fun x y H Q => ∃ i j, x = .str i ∧ y = .str j ∧ Q (.bl (decide (i.cps.toList < j.cps.toList))) H
def rLeS : R2 := fun x y H Q => ∃ i j, x = .str i ∧ y = .str j ∧ Q (.bl (!decide (j.cps.toList < i.cps.toList))) H
def rAddS : R2 := fun x y H Q => ∃ i j, x = .str i ∧ y = .str j ∧ i.length + j.length ≤ sizeLine ∧ Q (.str (i ++ j)) H
def rMulS : R2 := fun x y H Q => ∃ (z : Str) (n : Nat), x = .str z ∧ y = .int (n : Nat) ∧ z.length * n ≤ 100000 ∧ n ≤ 100000 ∧ Q (.str (repS n z)) H
def rJoin (K : PySem.W.Frag) : V → List V → Hp → VK → Prop := fun x xs H Q => ∃ a p, ∃ ys : List Str, x = .str a ∧ xs = [.ref p] ∧ (SqL K H p (ys.map V.str) ∨ SqT K H p (ys.map V.str)) ∧ (ys.map (·.length)).sum + ys.length * a.length ≤ 16777216 ∧ Q (.str (Txt.join a ys)) H
section
variable {X : Cx}
end
section
variable {σ : L2.St} {H : Hp} {Q : VK} {K : PySem.W.Frag} {v x y : V} {a p : Addr} {xs ys : List V}
end
end TP

namespace TP
open PySem PySem.Spec PyProof.Rows L2
/-- the built-in names that the module leaves free -/
structure Fre (mg : Str → Option Value) : Prop where
  len_ : mg "len" = none
  isinstance_ : mg "isinstance" = none
  range_ : mg "range" = none
  enumerate_ : mg "enumerate" = none
  zip_ : mg "zip" = none
  reversed_ : mg "reversed" = none
  int_ : mg "int" = none
  str_ : mg "str" = none
  bool_ : mg "bool" = none
  tuple_ : mg "tuple" = none
  list_ : mg "list" = none
  dict_ : mg "dict" = none
  bytes_ : mg "bytes" = none
  set_ : mg "set" = none
  sum_ : mg "sum" = none
  all_ : mg "all" = none
  any_ : mg "any" = none
  abs_ : mg "abs" = none
  min_ : mg "min" = none
  max_ : mg "max" = none
  sorted_ : mg "sorted" = none
  repr_ : mg "repr" = none
  divmod_ : mg "divmod" = none
  type_ : mg "type" = none
  map_ : mg "map" = none
  iter_ : mg "iter" = none
  next_ : mg "next" = none
/-! ### small steps -/
section
variable {σ : L2.St} {H : Hp} {Q : VK} {QO : Option Int → Hp → Prop} {tr tk : TA} {te : TE} {D : Ends} {sp : Sp} {E : XK}
def Par2 (k : V → V → Prop) (vs : List V) : Prop := ∃ v w, vs = [v, w] ∧ k v w
def Par3 (k : V → V → V → Prop) (vs : List V) : Prop := ∃ u v w, vs = [u, v, w] ∧ k u v w
def IntC (x : V) (k : Int → Prop) : Prop := ∃ i, x = .int i ∧ k i
def KwC (n m : Nat) (g : {α : Type} → List α → List α → List α) (vs zs : List V) (k : List V → Prop) : Prop := vs.length = n ∧ zs.length = m ∧ k (g vs zs)
end
end TP

namespace TP
open PySem PySem.Spec PyProof.Rows L2
/-! ### kinds of data -/
def wholeD : PyData → Bool
  | .int _ => true
  | _ => false
def isIntD : PyData → Bool
  | .int _ => true
  | .bool _ => true
  | _ => false
def isBoolD : PyData → Bool
  | .bool _ => true
  | _ => false
def isStrD : PyData → Bool
  | .str _ => true
  | _ => false
def isTupD : PyData → Bool
  | .tuple _ => true
  | _ => false
mutual
/-- texts of at most 100000 signs -/
def szD : PyData → Bool
  | .str x => decide (x.length ≤ 100000)
  | .list ds => szDs ds
  | .tuple ds => szDs ds
  | _ => true
def szDs : List PyData → Bool
  | [] => true
  | d :: r => szD d && szDs r
end
def letters : Str := "abcdefghijklmnopqrstuvwxyz"
def isLet (c : Nat) : Bool := decide (97 ≤ c) && decide (c ≤ 122)
def isName (x : Str) : Bool := decide (0 < x.length) && (decide (x.length < 9) && x.cps.toList.all isLet)
def nameD : PyData → Bool
  | .str x => isName x
  | _ => false
def fromD (d : PyData) (j : Int) : Bool := match d with
  | .int i => decide (j ≤ i)
  | _ => false
def runD : PyData → Bool
  | .tuple [a, b] => nameD a && fromD b 1
  | _ => false
/-- the name of a pair -/
def nmD : PyData → Str
  | .tuple (.str x :: _) => x
  | _ => Str.empty
def ltS (x y : Str) : Prop := x.cps.toList < y.cps.toList
instance (x y : Str) : Decidable (ltS x y) := inferInstanceAs (Decidable (x.cps.toList < y.cps.toList))
/-- the element at i is bad: too many, no run, or not behind the one before -/
def badAt (ds : List PyData) (m : Int) (i : Nat) : Bool := decide (m ≤ (i : Int)) || (!runD (ds.getD i .none) || (decide (0 < i) && !decide (ltS (nmD (ds.getD (i - 1) .none)) (nmD (ds.getD i .none)))))
def firstBad (ds : List PyData) (m : Int) : Option Nat := (List.range ds.length).find? (badAt ds m)
def optV : Option Nat → V
  | none => .non
  | some i => .int (i : Nat)
def countsD : PyData → Bool
  | .tuple ds => (firstBad ds 12).isNone
  | _ => false
/-! ### bags: pairs of a name and a number -/
abbrev Bag := List (Str × Int)
def pairD (p : Str × Int) : PyData := .tuple [.str p.1, .int p.2]
def bagD (ps : Bag) : PyData := .tuple (ps.map pairD)
def sumC (ps : Bag) : Int := (ps.map (·.2)).sum
/-- counts: names that ascend, numbers from 1 on -/
structure BagOk (ps : Bag) : Prop where
  asc : ps.Pairwise fun a b => ltS a.1 b.1
  nam : ∀ p ∈ ps, isName p.1 = true
  pos : ∀ p ∈ ps, 1 ≤ p.2
/-! the pairs in the heap -/
section
variable {K : PySem.W.Frag} {H : Hp}
end
theorem flat_bag (ps : Bag) : flatD (bagD ps) = true := by
  unfold bagD flatD
  induction ps with
  | nil => rfl
  | cons p r ih => show (flatD (pairD p) && flatDs (r.map pairD)) = true; rw [ih]; rfl
/-! tables -/
def getT (t : Bag) (n : Str) : Int := ((t.find? fun p => decide (p.1 = n)).map (·.2)).getD 0
def putT (t : Bag) (n : Str) (c : Int) : Bag := if (t.any fun p => decide (p.1 = n)) = true then t.map (fun p => if p.1 = n then (p.1, c) else p) else t ++ [(n, c)]
def addT (t : Bag) (p : Str × Int) : Bag := putT t p.1 (getT t p.1 + p.2)
def tabOf (ps : Bag) : Bag := ps.foldl addT []
def kvOf (t : Bag) : List (Key × V) := t.map fun p => (Sum.inr p.1, V.int p.2)
/-- what a table holds of a name, and what was put in -/
def cntC (ps : Bag) (n : Str) : Int := ((ps.filter fun p => decide (p.1 = n)).map (·.2)).sum
end TP

namespace TP
open PySem PySem.Spec PyProof.Rows L2
/-! ### names that are drawn -/
/-- a text of letters -/
def lets (x : Str) : Prop := ∀ c ∈ x.cps.toList, isLet c = true
def menuW : List Str := ["more", "less", "sum", "few", "many", "gain", "columns", "range", "order", "merge", "a", "b", "c", "x", "y"]
def wordA (b i : Nat) : Str := menuW.getD ((b + 4 * i) % 15) Str.empty
def wordB (b i : Nat) : Str := repS (1 + i % 8) ⟨#[97 + (b + 7 * i) % 26]⟩
def wordC (b : Nat) (l r : List Nat) (i : Nat) : Str := ⟨(l ++ (97 + (b + 5 * i) % 26) :: r).toArray⟩
/-- names that differ -/
structure WordsOk (ws : List Str) (n : Nat) : Prop where
  len : ws.length = n
  nd : ws.Nodup
  nam : ∀ w ∈ ws, isName w = true
/-! ### the order of texts -/
theorem ltS_irrefl (a : Str) : ¬ ltS a a := List.lt_irrefl _
theorem ltS_ne {a b : Str} (h : ltS a b) : a ≠ b := fun e => by subst e; exact ltS_irrefl _ h
end TP

namespace TP
open PySem PySem.Spec PyProof.Rows L2
/-! ### the rules with the written part told -/
section
variable {X : Cx} (K : PySem.W.Frag)
variable {o e a b : Expr} {to te ta tb : TE} {apos cpos pos p tpos : Pos} {es : List Expr} {t : TA} {tg : Expr} {rest : List Expr}
end
/-! ### comprehensions of scalars, with or without a test -/
section
variable {J : It} {n : Nat} {G : Hp → Prop} {Y : Nat → Hp → V → Hp → Prop} {g : TG} {tt : TT} {te : TE} {vs : List Nat} {σ : L2.St} {H1 : Hp} {D : Addr} {Q : VK} {α : Type}
end
/-! ### comprehensions of data -/
section
variable {J : It} {n : Nat} {G : Hp → Prop} {Y : Nat → Hp → V → Hp → Prop} {g : TG} {te : TE} {vs : List Nat} {σ : L2.St} {H1 : Hp} {D : Addr} {Q : VK} {K : PySem.W.Frag}
end
/-! ### what bags show -/
/-- names and numbers that can be shown -/
def BagS (ps : Bag) : Prop := ∀ p ∈ ps, isName p.1 = true ∧ 0 ≤ p.2 ∧ p.2 ≤ 10 ^ 100
theorem BagOk.s {ps : Bag} (h : BagOk ps) (hc : ∀ p ∈ ps, p.2 ≤ 10 ^ 100) : BagS ps := fun p hp => ⟨h.nam p hp, by have := h.pos p hp; omega, hc p hp⟩
/-- the signs of a text, each a text -/
def signs1 (x : Str) : List Str := x.cps.toList.map fun c => ⟨#[c]⟩
/-! ### the end: the law's own function object -/
end TP

namespace TP
open PySem PySem.Spec PyProof.Rows L2
/-! ### t[::c] of a tuple -/
def stepLo (c : Int) (n : Nat) : Int := if c < 0 then (n : Int) - 1 else 0
def stepHi (c : Int) (n : Nat) : Int := if c < 0 then -1 else (n : Int)
def stepIx (c : Int) (n : Nat) : List Nat := (List.range (Builtin.Slice.slicePlaces (stepLo c n) (stepHi c n) c)).map fun (k : Nat) => (stepLo c n + (k : Int) * c).toNat
def stepL {α : Type} (c : Int) (xs : List α) : List α := (stepIx c xs.length).filterMap fun k => xs[k]?
section
variable {prog : Program} {w : World} {A : Around} {E : Value → Shared → Prop} {s : Shared}
end
def tStepT (K : PySem.W.Frag) (c : Int) (te : TE) : TE := fun σ H Q => te σ H fun x H1 => ∃ a xs, x = .ref a ∧ SqT K H1 a xs ∧ (stepL c xs).length ≤ sizeLine ∧ ∀ p, H1 p = none → Q (.ref p) (upd H1 p (.tup (stepL c xs)))
section
variable {X : Cx} {e : Expr} {te : TE} {k : Nat} {p1 p2 p3 pos : Pos} (K : PySem.W.Frag)
end
/-! ### comprehensions of data, with a test -/
section
variable {J : It} {n : Nat} {G : Hp → Prop} {Y : Nat → Hp → V → Hp → Prop} {g : TG} {tt : TT} {te : TE} {vs : List Nat} {σ : L2.St} {H1 : Hp} {D : Addr} {Q : VK} {α : Type}
end
/-! ### the one ascending bag of given counts -/
structure IsCan (f : Str → Int) (ps : Bag) : Prop where
  asc : ps.Pairwise fun a b => ltS a.1 b.1
  pos : ∀ p ∈ ps, 0 < p.2
  cnt : ∀ n, getT ps n = f n
theorem asc_nodup {ps : Bag} (h : ps.Pairwise fun a b => ltS a.1 b.1) : (ps.map (·.1)).Nodup := by
  unfold List.Nodup
  rw [List.pairwise_map]
  exact h.imp fun h => ltS_ne h
/-! ### the different names, in the order in which they come -/
def addN (l : List Str) (n : Str) : List Str := if n ∈ l then l else l ++ [n]
def namesOf (ns : List Str) : List Str := ns.foldl addN []
def kvN (l : List Str) : List (Key × V) := l.map fun n => (Sum.inr n, V.bl true)
theorem addN_len (l : List Str) (n : Str) : (addN l n).length ≤ l.length + 1 ∧ l.length ≤ (addN l n).length := by
  unfold addN
  split <;> simp
theorem addN_mem {l : List Str} {n x : Str} : x ∈ addN l n ↔ x ∈ l ∨ x = n := by
  unfold addN
  split
  · rename_i h
    exact ⟨.inl, fun z => z.elim id fun e => e ▸ h⟩
  · simp
theorem addN_nodup {l : List Str} {n : Str} (h : l.Nodup) : (addN l n).Nodup := by
  unfold addN
  split
  · exact h
  · rename_i hn
    rw [List.nodup_append]
    exact ⟨h, by simp, fun a ha b hb e => by rw [List.mem_singleton] at hb; subst hb; exact hn (e ▸ ha)⟩
theorem namesOf_aux : ∀ (ns acc : List Str), acc.Nodup → (ns.foldl addN acc).Nodup ∧ (∀ x, x ∈ ns.foldl addN acc ↔ x ∈ acc ∨ x ∈ ns) ∧ acc.length ≤ (ns.foldl addN acc).length ∧ (ns.foldl addN acc).length ≤ acc.length + ns.length
  | [], acc, h => ⟨h, by simp, by simp, by simp⟩
  | n :: r, acc, h => by
    obtain ⟨h1, h2, h3, h4⟩ := namesOf_aux r (addN acc n) (addN_nodup h)
    have hl := addN_len acc n
    refine ⟨h1, fun x => ?_, by simp only [List.foldl_cons]; omega, by simp only [List.foldl_cons, List.length_cons]; omega⟩
    rw [List.foldl_cons, h2, addN_mem, List.mem_cons, or_assoc]
theorem namesOf_nodup (ns : List Str) : (namesOf ns).Nodup := (namesOf_aux ns [] List.nodup_nil).1
theorem namesOf_mem {ns : List Str} {x : Str} : x ∈ namesOf ns ↔ x ∈ ns := by have := (namesOf_aux ns [] List.nodup_nil).2.1 x; simpa [namesOf] using this
theorem nodup_sub_len {α : Type} [DecidableEq α] : ∀ {a b : List α}, a.Nodup → (∀ x ∈ a, x ∈ b) → a.length ≤ b.length
  | [], b, _, _ => Nat.zero_le _
  | x :: r, b, nd, h => by
    have nd' := List.nodup_cons.mp nd
    have hx := h x List.mem_cons_self
    have := nodup_sub_len (b := b.erase x) nd'.2 fun y hy => (List.mem_erase_of_ne fun e : y = x => nd'.1 (by rw [← e]; exact hy)).mpr (h y (List.mem_cons_of_mem _ hy))
    rw [List.length_erase_of_mem hx] at this
    have : 0 < b.length := List.length_pos_of_mem hx
    simp only [List.length_cons]; omega
theorem namesOf_take {ns : List Str} {i : Nat} : (namesOf (ns.take i)).length ≤ (namesOf ns).length := nodup_sub_len (namesOf_nodup _) fun x hx => namesOf_mem.mpr (List.mem_of_mem_take (namesOf_mem.mp hx))
/-! ### orders -/
def noOrdAt (ds : List PyData) (i : Nat) : Bool := decide (1000 ≤ i) || (!runD (ds.getD i .none) || decide (12 < (namesOf ((ds.take (i + 1)).map nmD)).length))
def firstNo (ds : List PyData) : Option Nat := (List.range ds.length).find? (noOrdAt ds)
def orderD : PyData → Bool
  | .tuple ds => (firstNo ds).isNone
  | _ => false
structure OrdOk (ps : Bag) : Prop where
  nam : ∀ p ∈ ps, isName p.1 = true
  pos : ∀ p ∈ ps, 1 ≤ p.2
  len : ps.length ≤ 1000
  few : (namesOf (ps.map (·.1))).length ≤ 12
theorem OrdOk.s {ps : Bag} (h : OrdOk ps) (hc : ∀ p ∈ ps, p.2 ≤ 10 ^ 100) : BagS ps := fun p hp => ⟨h.nam p hp, by have := h.pos p hp; omega, hc p hp⟩
end TP

namespace TP
open PySem PySem.Spec PyProof.Rows L2
/-! ### len and sorted of a dict, d[k], the truth of a value, equality of data -/
def rLenD : List V → Hp → VK → Prop := fun xs H Q => ∃ a kvs, xs = [V.ref a] ∧ H a = some (.dK kvs) ∧ Q (.int kvs.length) H
def rSortedDk : List V → Hp → VK → Prop := fun xs H Q => ∃ (a : Addr) (kvs : List (Key × V)) (ks : List Str), xs = [.ref a] ∧ Rd H a (.dK kvs) ∧ kvs.map (·.1) = ks.map Sum.inr ∧ ks.length < 64 ∧
    ∀ ys p, ys.Perm ks → sortedS ys = true → H p = none → Q (.ref p) (upd H p (.lst (ys.map V.str)))
def tTru (K : PySem.W.Frag) (ta : TE) : TT := fun σ H Q => ta σ H fun x H' => ∃ k, TruV K x H' k ∧ Q k H'
def TruC (K : PySem.W.Frag) (x : V) (H : Hp) (k : Bool → Prop) : Prop := ∃ b, TruV K x H b ∧ k b
def DGetC (x y : V) (H : Hp) (Q : VK) : Prop := ∃ a v, x = .ref a ∧ DGet H a y (some v) ∧ Q v H
section
variable {K : PySem.W.Frag} {σ : L2.St} {H : Hp} {Q : VK} {te td ty : TE} {QB : Bool → Hp → Prop} {a : Addr} {xs : List V} {v w : V}
end
/-! ### lists that are the same, item by item -/
def SameV (K : PySem.W.Frag) (H : Hp) (x y : V) : Prop := (x = y ∧ flatB x = true) ∨ ∃ d, Dp K H x d ∧ Dp K H y d ∧ SeqAt.shaped d = true
inductive AllSame (K : PySem.W.Frag) (H : Hp) : List V → List V → Prop
  | nil : AllSame K H [] []
  | cons {x y : V} {xs ys : List V} : SameV K H x y → AllSame K H xs ys → AllSame K H (x :: xs) (y :: ys)
theorem AllSame.len {K : PySem.W.Frag} {H : Hp} : ∀ {xs ys : List V}, AllSame K H xs ys → xs.length = ys.length
  | _, _, .nil => rfl
  | _, _, .cons _ r => by rw [List.length_cons, List.length_cons, r.len]
def rNeL (K : PySem.W.Frag) : R2 := fun x y H Q => ∃ a b xs ys, x = .ref a ∧ y = .ref b ∧ SqL K H a xs ∧ SqL K H b ys ∧ AllSame K H xs ys ∧ Q (.bl false) H
def rEqL (K : PySem.W.Frag) : R2 := fun x y H Q => ∃ a b xs ys, x = .ref a ∧ y = .ref b ∧ SqL K H a xs ∧ SqL K H b ys ∧ AllSame K H xs ys ∧ Q (.bl true) H
section
variable {X : Cx} {pins : List (Addr × Obj)} {σ : L2.St} {H : Hp} {s : Shared}
def rNeE (K : PySem.W.Frag) : R2 := fun x y H Q => ∃ a b xs, x = .ref a ∧ y = .ref b ∧ SqL K H a xs ∧ SqL K H b [] ∧ Q (.bl (!xs.isEmpty)) H
def rEqE (K : PySem.W.Frag) : R2 := fun x y H Q => ∃ a b xs, x = .ref a ∧ y = .ref b ∧ SqL K H a xs ∧ SqL K H b [] ∧ Q (.bl xs.isEmpty) H
end
section
variable {K : PySem.W.Frag} {H : Hp} {Q : VK} {a b : Addr} {xs ys : List V}
end
/-! ### the table in the order of its names -/
def canF (f : Str → Int) (ys : List Str) : Bag := ys.filterMap fun y => if 0 < f y then some (y, f y) else none
def posI (i : Int) : Int := if 0 < i then i else 0
theorem IsCan.ok {f : Str → Int} {ps : Bag} (h : IsCan f ps) (hn : ∀ p ∈ ps, isName p.1 = true) : BagOk ps := ⟨h.asc, hn, fun p hp => by have := h.pos p hp; omega⟩
/-! ### sums and counts -/
theorem cntC_cons (p : Str × Int) (r : Bag) (n : Str) : cntC (p :: r) n = (if p.1 = n then p.2 else 0) + cntC r n := by
  unfold cntC
  by_cases e : p.1 = n
  · rw [List.filter_cons_of_pos (by simpa using e), List.map_cons, List.sum_cons, if_pos e]
  · rw [List.filter_cons_of_neg (by simpa using e), if_neg e]; omega
theorem sumC_cons (p : Str × Int) (r : Bag) : sumC (p :: r) = p.2 + sumC r := by unfold sumC; rw [List.map_cons, List.sum_cons]
/-! ### neighbouring runs of a name joined; the last run stands first -/
def jst (acc : Bag) (p : Str × Int) : Bag := match acc with
  | [] => [p]
  | q :: r => if q.1 = p.1 then (p.1, q.2 + p.2) :: r else p :: q :: r
def jrev (ps : Bag) : Bag := ps.foldl jst []
def joinR (ps : Bag) : Bag := (jrev ps).reverse
def Red : Bag → Prop
  | [] => True
  | p :: r => (∀ q, r.head? = some q → q.1 ≠ p.1) ∧ Red r
theorem jst_cnt (acc : Bag) (p : Str × Int) (n : Str) : cntC (jst acc p) n = cntC acc n + (if p.1 = n then p.2 else 0) := by
  cases acc with
  | nil => show cntC [p] n = _; rw [cntC_cons]; have : cntC [] n = 0 := rfl; omega
  | cons q r =>
    show cntC (if q.1 = p.1 then _ else _) n = _
    split
    · rename_i e
      rw [cntC_cons, cntC_cons]
      show (if p.1 = n then q.2 + p.2 else 0) + _ = _
      rw [e]
      split <;> omega
    · rw [cntC_cons]; omega
theorem jst_sum (acc : Bag) (p : Str × Int) : sumC (jst acc p) = sumC acc + p.2 := by
  cases acc with
  | nil => show sumC [p] = _; rw [sumC_cons]; have : sumC [] = 0 := rfl; omega
  | cons q r =>
    show sumC (if q.1 = p.1 then _ else _) = _
    split
    · rw [sumC_cons, sumC_cons]; show q.2 + p.2 + _ = _; omega
    · rw [sumC_cons]; omega
theorem jrev_aux : ∀ (ps acc : Bag), (∀ n, cntC (ps.foldl jst acc) n = cntC acc n + cntC ps n) ∧ sumC (ps.foldl jst acc) = sumC acc + sumC ps ∧ (ps.foldl jst acc).length ≤ acc.length + ps.length
  | [], acc => ⟨fun n => by have : cntC [] n = 0 := rfl; simp only [List.foldl_nil]; omega, by have : sumC [] = 0 := rfl; simp only [List.foldl_nil]; omega, by simp⟩
  | p :: r, acc => by
    obtain ⟨h1, h2, h3⟩ := jrev_aux r (jst acc p)
    have hl : (jst acc p).length ≤ acc.length + 1 := by
      cases acc with
      | nil => simp [jst]
      | cons q t => show (if q.1 = p.1 then _ else _ : Bag).length ≤ _; split <;> simp
    refine ⟨fun n => ?_, ?_, ?_⟩
    · rw [List.foldl_cons, h1, jst_cnt, cntC_cons]; omega
    · rw [List.foldl_cons, h2, jst_sum, sumC_cons]; omega
    · rw [List.foldl_cons, List.length_cons]; omega
theorem jrev_len (ps : Bag) : (jrev ps).length ≤ ps.length := by have := (jrev_aux ps []).2.2; simpa [jrev] using this
theorem joinR_len (ps : Bag) : (joinR ps).length ≤ ps.length := by unfold joinR; rw [List.length_reverse]; exact jrev_len ps
theorem jrev_mem (ps : Bag) (hp : ∀ p ∈ ps, 1 ≤ p.2) : ∀ q ∈ jrev ps, q.1 ∈ ps.map (·.1) ∧ 1 ≤ q.2 := by
  have : ∀ (ps acc : Bag) (l : List Str), (∀ p ∈ ps, 1 ≤ p.2 ∧ p.1 ∈ l) → (∀ q ∈ acc, q.1 ∈ l ∧ 1 ≤ q.2) → ∀ q ∈ ps.foldl jst acc, q.1 ∈ l ∧ 1 ≤ q.2 := by
    intro ps
    induction ps with
    | nil => intro acc l _ h; exact h
    | cons p r ih =>
      intro acc l h1 h2
      refine ih (jst acc p) l (fun q hq => h1 q (List.mem_cons_of_mem _ hq)) fun q hq => ?_
      have hp := h1 p List.mem_cons_self
      cases acc with
      | nil => rw [show jst [] p = [p] from rfl, List.mem_singleton] at hq; subst hq; exact ⟨hp.2, hp.1⟩
      | cons z t =>
        have hz := h2 z List.mem_cons_self
        have hq' : q ∈ (if z.1 = p.1 then (p.1, z.2 + p.2) :: t else p :: z :: t) := hq
        split at hq'
        · rcases List.mem_cons.mp hq' with rfl | hq'
          · exact ⟨hp.2, by show 1 ≤ z.2 + p.2; omega⟩
          · exact h2 q (List.mem_cons_of_mem _ hq')
        · rcases List.mem_cons.mp hq' with rfl | hq'
          · exact ⟨hp.2, hp.1⟩
          · exact h2 q hq'
  exact this ps [] (ps.map (·.1)) (fun p hpp => ⟨hp p hpp, List.mem_map.mpr ⟨p, hpp, rfl⟩⟩) nofun
theorem OrdOk.join {ps : Bag} (h : OrdOk ps) : OrdOk (joinR ps) := by
  have hm : ∀ q ∈ joinR ps, q.1 ∈ ps.map (·.1) ∧ 1 ≤ q.2 := fun q hq => jrev_mem ps h.pos q (List.mem_reverse.mp hq)
  refine ⟨fun q hq => ?_, fun q hq => (hm q hq).2, Nat.le_trans (joinR_len ps) h.len, Nat.le_trans (nodup_sub_len (namesOf_nodup _) fun x hx => ?_) h.few⟩
  · obtain ⟨p, hp, e⟩ := List.mem_map.mp (hm q hq).1
    rw [← e]; exact h.nam p hp
  · obtain ⟨q, hq, e⟩ := List.mem_map.mp (namesOf_mem.mp hx)
    rw [← e]
    exact namesOf_mem.mpr (hm q hq).1
/-! ### the last item of a list -/
def StepC (K : PySem.W.Frag) (c : Int) (v : V) (H : Hp) (Q : VK) : Prop := ∃ a xs, v = .ref a ∧ SqT K H a xs ∧ (stepL c xs).length ≤ sizeLine ∧ ∀ p, H p = none → Q (.ref p) (upd H p (.tup (stepL c xs)))
end TP

namespace TP
open PySem PySem.Spec PyProof.Rows L2
/-! ### arguments, keywords and defaults, picked by their places -/
def pick {α : Type} (js : List Nat) (l : List α) : List α := js.filterMap fun j => l[j]?
/-- n positional values, keywords ks, nd defaults: js says where each parameter comes from -/
def BindJ (x q : Str) (st : Stmt) (ps : List Str) (nd n : Nat) (ks : List Str) (js : List Nat) : Prop :=
  (nd = 0 ∧ ∀ (kV doc pm : Value) (an : Option Addr) (cdv ct : Value) (us ws : List Value), us.length = n → ws.length = ks.length →
    bindArgs (PySem.W.fnOf x q (defArgs st) (defBody st) (defScope st) .none kV doc pm an cdv ct) ⟨us, ks.zip ws⟩ = pure (ps.zip (pick js (us ++ ws)))) ∨
  (nd ≠ 0 ∧ ∀ (T : Addr) (kV doc pm : Value) (an : Option Addr) (cdv ct : Value) (us its ws : List Value), us.length = n → its.length = nd → ws.length = ks.length →
    ∃ k, bindArgs (PySem.W.fnOf x q (defArgs st) (defBody st) (defScope st) (.ref T) kV doc pm an cdv ct) ⟨us, ks.zip ws⟩ = seqItems? (.ref T) >>= k ∧ k (some its.toArray) = pure (ps.zip (pick js (us ++ ws ++ its))))
/-! ### methods -/
structure DfdM (K : PySem.W.Frag) (C m q : Str) (st : Stmt) (dvs : List V) : Prop where
  ex : ∃ fd, FunD K m q (defArgs st) (defBody st) (defScope st) dvs [] (He.ma K (He.ga K C) m) fd
  mt : Meth K (He.ga K C) m (He.ma K (He.ga K C) m)
structure HasM (P : Program) (w : World) (K : PySem.W.Frag) (mg : Str → Option Value) (base : Heap) (CX : CXT) (k : Nat) (C m q : Str) (st : Stmt) (dvs : List V) (ps : List Str) (sp : Sp) : Prop where
  ex : ∃ fd, FunD K m q (defArgs st) (defBody st) (defScope st) dvs [] (He.ma K (He.ga K C) m) fd ∧ FnG P w K mg base CX k (He.ma K (He.ga K C) m) fd ps sp
  mt : Meth K (He.ga K C) m (He.ma K (He.ga K C) m)
section
variable {P : Program} {w : World} {K : PySem.W.Frag} {mg : Str → Option Value} {base : Heap} {CX : CXT} {k j : Nat} {C m q : Str} {st : Stmt} {dvs : List V} {N ps : List Str} {sp sp' : Sp}
theorem DfdM.has (D : DfdM K C m q st dvs) (S : FnScope N ps (defScope st)) (len : ∀ vs H Q E, sp vs H Q E → vs.length = ps.length)
    (hbody : ∀ (cdv : Value) (A : Around) (outer : List Env) (s : Shared) (H : Hp) (vs : List V) (Q : VK) (E : XK), Room k (A.deeper (envOfC q (defScope st) s.heap.objs.size (He.ma K (He.ga K C) m) cdv)) → (A.deeper (envOfC q (defScope st) s.heap.objs.size (He.ma K (He.ga K C) m) cdv)).guards = some [] → sp vs H Q E →
      ∃ t, PSs (cxOf CX P w K mg base N q (defScope st) (He.ma K (He.ga K C) m) cdv A outer s H E) (defBody st) t ∧ t { nx := fun _ H' => Q .non H', rt := Q } (start N vs) H) :
    HasM P w K mg base CX (k + 1) C m q st dvs ps sp := by
  obtain ⟨fd, F⟩ := D.ex
  exact ⟨⟨fd, F, fnG_of F S len hbody⟩, D.mt⟩
end
/-- a class of the program: its fields fs are no attributes of the class -/
structure ClsF (K : PySem.W.Frag) (mg : Str → Option Value) (C : Str) (fs : List Str) : Prop where
  glo : mg C = some (.ref (He.ga K C))
  cls : Cls K (He.ga K C)
  na : ∀ f ∈ fs, NoAttr K (He.ga K C) f
  mkr : Mk K (He.ga K C) (He.ma K (He.ga K C) "__init__")
  i1 : PySem.W.findIn K (.ref (He.ga K C)) "__class__" = some (some (.builtin "object.__class__"))
  i2 : PySem.W.specialIn K (.builtin "object.__class__") "__get__" = some (some (.builtin "getset_descriptor.__get__"))
  i3 : PySem.W.takesIn K (.builtin "object.__class__") = some true
  i4 : PySem.W.mroIn K (He.ga K C) (.type "object") = some true
  kt : PySem.W.kitOne K (.ref (He.ga K C)) (.ref (He.ga K C)) = some true
  kf : ∀ T ∈ ["NoneType", "bool", "int", "str", "list", "tuple", "dict"], PySem.W.kitOne K (.type T) (.ref (He.ga K C)) = some false
  kb : ∀ T ∈ ["int", "str", "list", "tuple", "dict", "bool"], PySem.W.kitOne K (.ref (He.ga K C)) (.type T) = some false
  ne : PySem.W.findIn K (.ref (He.ga K C)) "__ne__" = some (some (.builtin "object.__ne__"))
def clsB (K : PySem.W.Frag) (C : Str) (fs : List Str) : Bool :=
  (He.Fa.glo C).ok K && ((He.Fa.cls C).ok K && (fs.all (fun f => (He.Fa.noat C f).ok K) && ((He.Fa.mkr C).ok K && (He.eqO (PySem.W.findIn K (.ref (He.ga K C)) "__class__") (some (some (.builtin "object.__class__"))) &&
    (He.eqO (PySem.W.specialIn K (.builtin "object.__class__") "__get__") (some (some (.builtin "getset_descriptor.__get__"))) && (decide (PySem.W.takesIn K (.builtin "object.__class__") = some true) &&
    (decide (PySem.W.mroIn K (He.ga K C) (.type "object") = some true) && (decide (PySem.W.kitOne K (.ref (He.ga K C)) (.ref (He.ga K C)) = some true) &&
    (["NoneType", "bool", "int", "str", "list", "tuple", "dict"].all (fun T => decide (PySem.W.kitOne K (.type T) (.ref (He.ga K C)) = some false)) &&
    (["int", "str", "list", "tuple", "dict", "bool"].all (fun T => decide (PySem.W.kitOne K (.ref (He.ga K C)) (.type T) = some false)) && He.eqO (PySem.W.findIn K (.ref (He.ga K C)) "__ne__") (some (some (.builtin "object.__ne__")))))))))))))
/-- an empty tuple stands at the address -/
def etupB (K : PySem.W.Frag) (a : Addr) : Bool := match K.lookup a with
  | some ⟨.type c, _, .seq its _, _⟩ => decide (c = "tuple") && decide (its = #[])
  | _ => false
/-- the address of the i-th default of a method, if it is an object's -/
def dflA (C m : Str) (i : Nat) (K : PySem.W.Frag) : Addr := match K.lookup (He.ma K (He.ga K C) m) with
  | some ⟨_, _, .func fd, _⟩ => (match fd.defaults with
    | .ref T => (match K.lookup T with
      | some ⟨_, _, .seq its _, _⟩ => (match its[i]? with
        | some (.ref a) => a
        | _ => 0)
      | _ => 0)
    | _ => 0)
  | _ => 0
/-! ### the hook, with further facts of the written part -/
def hookE (n : Nat) (fa : List He.Fa) (fn : List He.DefD) (ex : List (PySem.W.Frag → Bool)) : PySem.W.Hook where
  α := He.AlD × Bool
  obs := fun s => (He.obsDG n fa fn s.heap.get?, (ex.all fun e => e (He.frG s.heap.get? (He.asD s.heap.get? n))))
  val := fun _ => (He.valD fn, true)
  says := fun _ h => ∃ K : PySem.W.Frag, K.In h ∧ He.SaysD fa fn K ∧ (ex.all fun e => e K) = true
  of := fun _ _ e => ⟨_, He.frG_in, congrArg (fun z : He.AlD × Bool => z.1) e, congrArg (fun z : He.AlD × Bool => z.2) e⟩
  keeps := fun _ _ _ ⟨K, hK, c⟩ k => ⟨K, PySem.W.Frag.In.keeps hK k, c⟩
def obsEG (n : Nat) (fa : List He.Fa) (fn : List He.DefD) (ex : List (PySem.W.Frag → Bool)) (g : Addr → Option Obj) : He.AlD × Bool := (He.obsDG n fa fn g, ex.all fun e => e (He.frG g (He.asD g n)))
/-! ### the rules -/
def MtC (C : Addr) (m : Str) (x : V) (H : Hp) (P : Prop) : Prop := ∃ a dx fs, x = .ref a ∧ H a = some (.ins C dx fs) ∧ fs.lookup m = none ∧ P
/-- o.m(..): n positional values, k keywords -/
def tMtN (C : Addr) (m : Str) (sp : Sp) (n k : Nat) (js : List Nat) (dvs : List V) (E : XK) (ta : TE) (t tk : TA) : TE := fun σ H Q => ta σ H fun x H1 => MtC C m x H1 (t σ H1 fun vs H2 => tk σ H2 fun zs H3 => vs.length = n ∧ zs.length = k ∧ sp (pick js ((x :: vs) ++ zs ++ dvs)) H3 Q E)
def MkG (C : Addr) (sp : Sp) (js : List Nat) (dvs vs zs : List V) (H : Hp) (Q : VK) (E : XK) : Prop := ∀ x dx, H x = none → H dx = none → dx ≠ x → sp (pick js ((.ref x :: vs) ++ zs ++ dvs)) (upd (upd H dx (.own x)) x (.ins C dx [])) (fun v H3 => v = .non ∧ Q (.ref x) H3) E
/-- C(..) -/
def tMkN (C : Addr) (sp : Sp) (n k : Nat) (js : List Nat) (dvs : List V) (E : XK) (t tk : TA) : TE := fun σ H Q => t σ H fun vs H1 => tk σ H1 fun zs H2 => vs.length = n ∧ zs.length = k ∧ MkG C sp js dvs vs zs H2 Q E
section
variable {X : Cx} {CX : CXT} {k n : Nat} {f : Addr} {fd : FuncData} {C m q : Str} {st : Stmt} {dvs : List V} {ps ks : List Str} {js : List Nat} {sp : Sp} {E : XK} {p pos apos : Pos} {e o : Expr} {es : List Expr} {kws : List Keyword} {ta : TE} {t tk : TA} {fs : List Str} {g : List Value → List Value → List Value} {gV : List V → List V → List V}
end
/-! ### fields, methods, isinstance in a reading -/
def LenC (n k : Nat) (vs zs : List V) (P : Prop) : Prop := vs.length = n ∧ zs.length = k ∧ P
def FldC (K : PySem.W.Frag) (f : Str) (x : V) (H : Hp) (Q : VK) : Prop := ∃ a C dx fs v, x = .ref a ∧ H a = some (.ins C dx fs) ∧ Cls K C ∧ NoAttr K C f ∧ fs.lookup f = some v ∧ Q v H
def SetC (K : PySem.W.Frag) (f : Str) (x y : V) (H : Hp) (k : Hp → Prop) : Prop := ∃ a C dx fs, x = .ref a ∧ H a = some (.ins C dx fs) ∧ Cls K C ∧ NoAttr K C f ∧ fs.length < 1000 ∧ k (upd H a (.ins C dx (putF f y fs)))
section
variable {K : PySem.W.Frag} {mg : Str → Option Value} {C f m : Str} {fs : List Str} {σ : L2.St} {H : Hp} {Q : VK} {ta tv : TE} {t tk : TA} {a dx : Addr} {fl : List (Str × V)} {v y : V} {De : Ends}
end
end TP

namespace TP
open PySem PySem.Spec PyProof.Rows L2
/-! ### the least number -/
def minL : List Int → Int
  | [] => 0
  | [a] => a
  | a :: b :: r => if a ≤ minL (b :: r) then a else minL (b :: r)
/-! ### dicts: membership, reading while locked, copying -/
def DInC (x y : V) (H : Hp) (k : Bool → Prop) : Prop := ∃ a o, x = .ref a ∧ DGet H a y o ∧ k o.isSome
def rDictD : List V → Hp → VK → Prop := fun xs H Q => ∃ (a : Addr) (kvs : List (Key × V)), xs = [.ref a] ∧ Rd H a (.dK kvs) ∧ ∀ p, H p = none → Q (.ref p) (upd H p (.dK kvs))
def OnK (R : It → Hp → Prop) (x : V) (H : Hp) : Prop := ∃ d o, x = .ref d ∧ ((∃ kvs, H d = some (.frz o (.dK kvs)) ∧ R (Itk d o kvs) H) ∨ ∃ kvs, H d = some (.frz o (.dT kvs)) ∧ R (Itkt d o kvs) H)
def DcOk (J : It) (g : TG) (tt : TT) (tk tv : TE) (vs : List Nat) (σ : L2.St) (H1 : Hp) (D : Addr) (Q : VK) : Prop := ∃ W : Nat → Nat → Hp → Prop, (∃ m, W 0 m (upd H1 D (.dK []))) ∧ ∀ i m H, W i m H →
  (J.stop i H ∧ Q (.ref D) H) ∨ (J.go i H ∧ ∃ Nx : Hp → Prop, (∀ H', Nx H' → ∃ m', m' < m ∧ W (i + 1) m' H') ∧ ∀ x H', J.yld i H x H' → g x (wipe σ vs) H' fun σ2 H2 => wipe σ2 vs = wipe σ vs ∧ tt σ2 H2 fun b H3 =>
    if b = true then tk σ2 H3 fun y H4 => tv σ2 H4 fun z H5 => ∃ kvs k, y = kV k ∧ H5 D = some (.dK kvs) ∧ kvs.length < sizeLine ∧ Nx (upd H5 D (.dK (putK kvs k z))) else Nx H3)
def WhC (m : Nat) (Pv : Nat → L2.St → Hp → Prop) (tb : TS) (De : Ends) (σ : L2.St) (H : Hp) : Prop := ∃ N : L2.St → Hp → Prop, (∀ σ' H', N σ' H' → ∃ m', m' < m ∧ Pv m' σ' H') ∧ tb { De with nx := N, ct := N, bk := De.nx } σ H
section
variable {K : PySem.W.Frag} {σ : L2.St} {H H1 : Hp} {Q : VK} {te td ty tx : TE} {a d : Addr} {kvs : List (Key × V)} {v : V} {R : It → Hp → Prop} {wi : TI} {g : TG} {tt : TT} {tk tv : TE} {vs : List Nat} {t : TE} {ts tb : TS} {De : Ends} {od : Obj} {D : Addr} {c : TT}
end
/-! ### tables: names once each, numbers from 1 on -/
abbrev keys (t : Bag) : List Str := t.map (·.1)
structure TabOk (t : Bag) : Prop where
  nd : (keys t).Nodup
  pos : ∀ p ∈ t, 1 ≤ p.2
theorem BagOk.tab {ps : Bag} (h : BagOk ps) : TabOk ps := ⟨asc_nodup h.asc, h.pos⟩
/-! what putting does -/
theorem put_keys (t : Bag) (n : Str) (c : Int) : keys (putT t n c) = addN (keys t) n := by
  unfold putT addN keys
  have e : (t.any fun q => decide (q.1 = n)) = decide (n ∈ t.map (·.1)) := by
    by_cases h : n ∈ t.map (·.1)
    · rw [decide_eq_true h, List.any_eq_true]
      obtain ⟨q, hq, e⟩ := List.mem_map.mp h
      exact ⟨q, hq, decide_eq_true e⟩
    · rw [decide_eq_false h, Bool.eq_false_iff]
      intro z
      obtain ⟨q, hq, e⟩ := List.any_eq_true.mp z
      exact h (List.mem_map.mpr ⟨q, hq, of_decide_eq_true e⟩)
  rw [e]
  by_cases h : n ∈ t.map (·.1)
  · rw [if_pos (decide_eq_true h), if_pos h, List.map_map]
    refine List.map_congr_left fun q _ => ?_
    by_cases z : q.1 = n
    · simp [z]
    · simp [z]
  · rw [if_neg (by rw [decide_eq_false h]; exact Bool.false_ne_true), if_neg h, List.map_append]; rfl
theorem put_mem {t : Bag} {n : Str} {c : Int} {p : Str × Int} (h : p ∈ putT t n c) : p ∈ t ∨ p = (n, c) := by
  unfold putT at h
  split at h
  · obtain ⟨q, hq, e⟩ := List.mem_map.mp h
    by_cases z : q.1 = n
    · rw [if_pos z] at e; right; rw [← e, z]
    · rw [if_neg z] at e; left; rw [← e]; exact hq
  · rcases List.mem_append.mp h with h | h
    · exact .inl h
    · exact .inr (List.mem_singleton.mp h)
theorem TabOk.put {t : Bag} (h : TabOk t) {n : Str} {c : Int} (hc : 1 ≤ c) : TabOk (putT t n c) := by
  refine ⟨by rw [put_keys]; exact addN_nodup h.nd, fun p hp => ?_⟩
  rcases put_mem hp with h1 | h1
  · exact h.pos p h1
  · rw [h1]; exact hc
/-! ### every number lowered by s, what is not above s left out -/
def lowT (t : Bag) (s : Int) : Bag := t.filterMap fun p => if s < p.2 then some (p.1, p.2 - s) else none
theorem lowT_cons (p : Str × Int) (r : Bag) (s : Int) : lowT (p :: r) s = (if s < p.2 then [(p.1, p.2 - s)] else []) ++ lowT r s := by
  unfold lowT
  rw [List.filterMap_cons]
  by_cases z : s < p.2
  · rw [if_pos z, if_pos z]; rfl
  · rw [if_neg z, if_neg z]; rfl
theorem lowT_mem {t : Bag} {s : Int} {p : Str × Int} (h : p ∈ lowT t s) : (p.1, p.2 + s) ∈ t ∧ 0 < p.2 := by
  unfold lowT at h
  obtain ⟨q, hq, e⟩ := List.mem_filterMap.mp h
  by_cases z : s < q.2
  · rw [if_pos z] at e
    cases e
    have : (q.1, q.2 - s + s) = q := Prod.ext rfl (by show q.2 - s + s = q.2; omega)
    exact ⟨by rw [this]; exact hq, by show 0 < q.2 - s; omega⟩
  · rw [if_neg z] at e; cases e
theorem lowT_keys {t : Bag} {s : Int} {n : Str} (h : n ∈ keys (lowT t s)) : n ∈ keys t := by
  obtain ⟨p, hp, rfl⟩ := List.mem_map.mp h
  exact List.mem_map.mpr ⟨_, (lowT_mem hp).1, rfl⟩
theorem lowT_nodup : ∀ {t : Bag} {s : Int}, (keys t).Nodup → (keys (lowT t s)).Nodup
  | [], _, h => h
  | p :: r, s, h => by
    have h' := List.nodup_cons.mp (show (p.1 :: keys r).Nodup from h)
    rw [lowT_cons]
    have ih := lowT_nodup (s := s) h'.2
    split
    · exact List.nodup_cons.mpr ⟨fun z => h'.1 (lowT_keys z), ih⟩
    · exact ih
theorem TabOk.low {t : Bag} (h : TabOk t) (s : Int) : TabOk (lowT t s) := ⟨lowT_nodup h.nd, fun p hp => by have := (lowT_mem hp).2; omega⟩
def minV (t : Bag) : Int := minL (t.map (·.2))
/-! ### m arrivals of a name at a table of at most c names -/
def arrT (c : Int) (t : Bag) (n : Str) (m : Int) : Bag × Int :=
  if n ∈ keys t ∨ (t.length : Int) ≠ c then (putT t n (getT t n + m), 0)
  else if m ≤ minV t then (lowT t m, m) else (putT (lowT t (minV t)) n (m - minV t), minV t)
structure ArrOk (c : Int) (t : Bag) : Prop where
  tab : TabOk t
  len : (t.length : Int) ≤ c
  cap : 1 ≤ c
theorem ArrOk.ne {c : Int} {t : Bag} (h : ArrOk c t) (e : (t.length : Int) = c) : t ≠ [] := by
  intro z
  have := h.cap
  rw [z] at e
  simp at e
  omega
end TP

namespace TP
open PySem PySem.Spec PyProof.Rows L2
/-! ### summaries -/
def betD (d : PyData) (i j : Int) : Bool := match d with
  | .int n => decide (i ≤ n) && decide (n ≤ j)
  | _ => false
abbrev sumF : List Str := ["capacity", "counts", "__bool__"]
structure SumV (c : Int) (ps : Bag) : Prop where
  c1 : 1 ≤ c
  c8 : c ≤ 8
  ok : BagOk ps
  len : (ps.length : Int) ≤ c
def SumO (K : PySem.W.Frag) (H : Hp) (v : V) (c : Int) (ps : Bag) : Prop := ∃ a dx b, v = .ref a ∧ H a = some (.ins (He.ga K "Summary") dx [("capacity", .int c), ("counts", b)]) ∧ Dp K H b (bagD ps)
def spInit (K : PySem.W.Frag) : Sp := fun vs H Q _ => ∃ (x dx : Addr) (c : Int) (ps : Bag) (b : V), vs = [.ref x, .int c, b] ∧ H x = some (.ins (He.ga K "Summary") dx []) ∧ Dp K H b (bagD ps) ∧ SumV c ps ∧
  ∀ H', SameB x H H' → H' x = some (.ins (He.ga K "Summary") dx [("capacity", .int c), ("counts", b)]) → Q .non H'
section
variable {K : PySem.W.Frag} {mg : Str → Option Value} {H H' : Hp} {Q : VK} {v : V} {c : Int} {ps : Bag}
theorem sum_same (s : Same H H') (h : SumO K H v c ps) : SumO K H' v c ps := by
  obtain ⟨a, dx, b, rfl, h1, h2⟩ := h
  exact ⟨a, dx, b, rfl, s _ _ h1, dp_same s h2⟩
end
/-! ### several arrivals, one behind another -/
def playT (c : Int) (t : Bag) (rs : Bag) : Bag × Int := rs.foldl (fun z r => ((arrT c z.1 r.1 r.2).1, z.2 + (arrT c z.1 r.1 r.2).2)) (t, 0)
def playF (c : Int) (z : Bag × Int) (rs : Bag) : Bag × Int := rs.foldl (fun z r => ((arrT c z.1 r.1 r.2).1, z.2 + (arrT c z.1 r.1 r.2).2)) z
/-! ### what is shown of a summary -/
theorem WordsOk.take {ws : List Str} {n : Nat} (h : WordsOk ws n) (k : Nat) : WordsOk (ws.take k) (ws.take k).length := ⟨rfl, h.nd.sublist (List.take_sublist k ws), fun w hw => h.nam w (List.mem_of_mem_take hw)⟩
theorem WordsOk.drop {ws : List Str} {n : Nat} (h : WordsOk ws n) (k : Nat) : WordsOk (ws.drop k) (ws.drop k).length := ⟨rfl, h.nd.sublist (List.drop_sublist k ws), fun w hw => h.nam w (List.mem_of_mem_drop hw)⟩
/-! ### slices of tuples of data -/
def cutL {α : Type} (xs : List α) (lo hi : Option Int) : List α := (xs.drop (HT.sIx xs.length 0 lo)).take (HT.sIx xs.length xs.length hi - HT.sIx xs.length 0 lo)
theorem OrdOk.take {rs : Bag} (h : OrdOk rs) (k : Nat) : OrdOk (rs.take k) := ⟨fun p hp => h.nam p (List.mem_of_mem_take hp), fun p hp => h.pos p (List.mem_of_mem_take hp), by have := h.len; rw [List.length_take]; omega,
  Nat.le_trans (by rw [List.map_take]; exact namesOf_take) h.few⟩
theorem OrdOk.drop {rs : Bag} (h : OrdOk rs) (k : Nat) : OrdOk (rs.drop k) := ⟨fun p hp => h.nam p (List.mem_of_mem_drop hp), fun p hp => h.pos p (List.mem_of_mem_drop hp), by have := h.len; rw [List.length_drop]; omega,
  Nat.le_trans (nodup_sub_len (namesOf_nodup _) fun x hx => by
    obtain ⟨p, hp, e⟩ := List.mem_map.mp (namesOf_mem.mp hx)
    exact namesOf_mem.mpr (List.mem_map.mpr ⟨p, List.mem_of_mem_drop hp, e⟩)) h.few⟩
theorem BagOk.take {ps : Bag} (h : BagOk ps) (k : Nat) : BagOk (ps.take k) := ⟨h.asc.sublist (List.take_sublist k ps), fun p hp => h.nam p (List.mem_of_mem_take hp), fun p hp => h.pos p (List.mem_of_mem_take hp)⟩
theorem BagOk.drop {ps : Bag} (h : BagOk ps) (k : Nat) : BagOk (ps.drop k) := ⟨h.asc.sublist (List.drop_sublist k ps), fun p hp => h.nam p (List.mem_of_mem_drop hp), fun p hp => h.pos p (List.mem_of_mem_drop hp)⟩
/-! ### a tuple times a number -/
end TP

namespace TP
open PySem PySem.Spec PyProof.Rows L2
/-! ### sorted(.., reverse=True) of numbers -/
section
variable {K : PySem.W.Frag} {σ : L2.St} {H : Hp} {Q : VK} {t tk : TA} {a : Addr}
end
/-! ### the number at place c of the ranks -/
def CutR (t : Bag) (c : Int) (x : Int) : Prop := ∃ ns : List Int, ns.Perm (t.map (·.2)) ∧ ns.Pairwise (· ≥ ·) ∧ x = if c < (ns.length : Int) then ns.getD c.toNat 0 else 0
/-! ### tables of several bags -/
/-- two bags merged: what is above the rank's number, lowered by it -/
def MergeR (c : Int) (ps qs r : Bag) : Prop := ∃ x, CutR (tabOf (ps ++ qs)) c x ∧ IsCan (fun n => posI (cntC (ps ++ qs) n - x)) r
/-- every number less x -/
def subT (t : Bag) (x : Int) : Bag := t.map fun p => (p.1, p.2 - x)
end TP

namespace TP
open PySem PySem.Spec PyProof.Rows L2
/-! ### a + b arrivals of a name are a and then b -/
/-! ### one by one -/
def stepN (c : Int) (z : Bag × Int) (n : Str) : Bag × Int := ((arrT c z.1 n 1).1, z.2 + (arrT c z.1 n 1).2)
def unitsT (c : Int) (t : Bag) (ns : List Str) : Bag × Int := ns.foldl (stepN c) (t, 0)
/-- what one more arrival, somewhere ahead, has changed -/
inductive Late (c : Int) (t : Bag) (l : Int) (t' : Bag) (l' : Int) : Prop
  | more (k : Str) (h : ∀ n, getT t' n = getT t n + if n = k then 1 else 0) (e : l' = l) : Late c t l t' l'
  | less (f : (t.length : Int) = c) (h : ∀ n, getT t' n = posI (getT t n - 1)) (e : l' = l + 1) : Late c t l t' l'
end TP

namespace TP
open PySem PySem.Spec PyProof.Rows L2
/-! ### dict(..) of a list of pairs -/
def rDictP (K : PySem.W.Frag) : List V → Hp → VK → Prop := fun xs H Q => ∃ (a : Addr) (ps : List Addr) (kvs : List (Key × V)), xs = [.ref a] ∧ SqL K H a (ps.map V.ref) ∧ Paired (fun p kv => SqT K H p [kV kv.1, kv.2]) ps kvs ∧
    ∀ p, H p = none → Q (.ref p) (upd H p (.dK (mergeK [] kvs)))
end TP

namespace TP
open PySem PySem.Spec PyProof.Rows L2
/-! ### tuples alone are as they were -/
def SameU (H H' : Hp) : Prop := ∀ a o, H a = some o → ((∃ xs, o = .tup xs) ∨ ∃ ob xs, o = .frz ob (.tup xs)) → H' a = some o
theorem SameU.sqt {K : PySem.W.Frag} {H H' : Hp} {a : Addr} {xs : List V} (s : SameU H H') (h : SqT K H a xs) : SqT K H' a xs := by
  rcases h with (h | ⟨o, h⟩) | h
  · exact .inl (.inl (s _ _ h (.inl ⟨_, rfl⟩)))
  · exact .inl (.inr ⟨o, s _ _ h (.inr ⟨_, _, rfl⟩)⟩)
  · exact .inr h
mutual
theorem dp_flatU {K : PySem.W.Frag} {H H' : Hp} (s : SameU H H') : ∀ {v : V} {d : PyData}, Dp K H v d → flatD d = true → Dp K H' v d
  | _, _, .non, _ => .non
  | _, _, .bl b, _ => .bl b
  | _, _, .int i, _ => .int i
  | _, _, .str x, _ => .str x
  | _, _, .lst h r, f => by simp [flatD] at f
  | _, _, .tup h r, f => .tup (s.sqt h) (dps_flatU s r (by simpa [flatD] using f))
theorem dps_flatU {K : PySem.W.Frag} {H H' : Hp} (s : SameU H H') : ∀ {vs : List V} {ds : List PyData}, DpAll K H vs ds → flatDs ds = true → DpAll K H' vs ds
  | _, _, .nil, _ => .nil
  | _, _, .cons h r, f => by
    have f2 := Bool.and_eq_true_iff.mp (show (flatD _ && flatDs _) = true from f)
    exact .cons (dp_flatU s h f2.1) (dps_flatU s r f2.2)
end
theorem SameU.trans {H H1 H2 : Hp} (a : SameU H H1) (b : SameU H1 H2) : SameU H H2 := fun c o h n => b c o (a c o h n) n
/-! ### small things -/
section
variable {K : PySem.W.Frag} {H : Hp} {Q : VK} {a l : Addr} {x : Str} {ws : List Str}
end
/-! ### data that can be compared -/
/-! ### names of tables -/
end TP

namespace TP
open PySem PySem.Spec PyProof.Rows L2
/-! ### special methods of a class of the program: len, repr, str, bool, == -/
section
variable {X : Cx} {CX : CXT} {k n : Nat} {f : Addr} {fd : FuncData} {C m q : Str} {st : Stmt} {ps : List Str} {js : List Nat} {sp : Sp} {E : XK} {fs : List Str} {g : List Value → List Value → List Value} {gV : List V → List V → List V}
def rLenO (C : Addr) (sp : Sp) (js : List Nat) (E : XK) : List V → Hp → VK → Prop := fun xs H Q => ∃ a dx fl, xs = [.ref a] ∧ H a = some (.ins C dx fl) ∧ sp (pick js ([.ref a] ++ [] ++ [])) H (fun v H' => ∃ n : Int, v = .int n ∧ 0 ≤ n ∧ n < 2 ^ 63 ∧ Q (.int n) H') E
def rStrO (C : Addr) (sp : Sp) (js : List Nat) (E : XK) : List V → Hp → VK → Prop := fun xs H Q => ∃ a dx fl, xs = [.ref a] ∧ H a = some (.ins C dx fl) ∧ sp (pick js ([.ref a] ++ [] ++ [])) H (fun v H' => ∃ y : Str, v = .str y ∧ Q (.str y) H') E
def rBoolO (C : Addr) (sp : Sp) (js : List Nat) (E : XK) : List V → Hp → VK → Prop := fun xs H Q => ∃ a dx fl, xs = [.ref a] ∧ H a = some (.ins C dx fl) ∧ sp (pick js ([.ref a] ++ [] ++ [])) H (fun v H' => ∃ n : Int, v = .int n ∧ 0 ≤ n ∧ n < 2 ^ 63 ∧ Q (.bl (n != 0)) H') E
end
/-! truth by a class's __len__ -/
section
variable {prog : Program} {w : World} {A : Around} {E : Value → Shared → Prop} {s : Shared} {K : PySem.W.Frag} {x C f : Addr} {ox : Obj} {od : Option Obj}
end
section
variable {X : Cx} {CX : CXT} {k n : Nat} {f : Addr} {fd : FuncData} {C m q : Str} {st : Stmt} {ps : List Str} {js : List Nat} {sp : Sp} {E : XK}
/-! == -/
def rEqO (C : Addr) (sp : Sp) (js : List Nat) (E : XK) : R2 := fun x y H Q => ∃ a b dx dy fl gl, x = .ref a ∧ y = .ref b ∧ H a = some (.ins C dx fl) ∧ H b = some (.ins C dy gl) ∧ sp (pick js ([.ref a, .ref b] ++ [] ++ [])) H (fun v H' => ∃ c : Bool, v = .bl c ∧ Q (.bl c) H') E
end
section
variable {X : Cx} {CX : CXT} {k n : Nat} {C q : Str} {st : Stmt} {ps : List Str} {js : List Nat} {sp : Sp} {E : XK} {fs : List Str} (K : PySem.W.Frag)
end
section
variable {K : PySem.W.Frag} {H : Hp} {Q : VK} {v w : V} {c d : Int} {ps qs : Bag} {sp : Sp} {js : List Nat} {E : XK}
end
end TP

namespace TP
open PySem PySem.Spec PyProof.Rows L2
/-! ### what a name loses -/
def sgnB (s : Int) (ps : Bag) : Bag := ps.map fun p => (p.1, s * p.2)
/-! ### what merging takes away -/
end TP

namespace TP
open PySem PySem.Spec PyProof.Rows L2
/-! ### texts of counts -/
def intS (i : Int) : Str := Str.ofString (toString i)
def ptS (p : Str × Int) : Str := p.1 ++ (":" : Str) ++ intS p.2
def cText (ps : Bag) : Str := if ps = [] then "-" else Txt.join " " (ps.map ptS)
/-! readings of texts -/
def FmtC (x : V) (H : Hp) (Q : VK) : Prop := (∃ y : Str, x = .str y ∧ y.length ≤ sizeLine ∧ Q (.str y) H) ∨ ∃ i : Int, x = .int i ∧ i.natAbs.log2 < 1920 ∧ Q (.str (toString i)) H
def JsC (ts : List TE) (acc : Str) (σ : L2.St) (Q : Str → Hp → Prop) (x : V) (H : Hp) : Prop := ∃ y : Str, x = .str y ∧ (acc ++ y).length ≤ sizeLine ∧ tJs ts (acc ++ y) σ H Q
def tJoined (ts : List TE) : TE := fun σ H Q => tJs ts Str.empty σ H fun out H1 => Q (.str out) H1
def rStrI : List V → Hp → VK → Prop := fun xs H Q => ∃ i, xs = [.int i] ∧ i.natAbs.log2 < 1920 ∧ Q (.str (toString i)) H
def rStrS : List V → Hp → VK → Prop := fun xs H Q => ∃ a, xs = [.str a] ∧ Q (.str a) H
def OrC (K : PySem.W.Frag) (tb : TE) (σ : L2.St) (Q : VK) (x : V) (H : Hp) : Prop := ∃ k, TruV K x H k ∧ if k = true then Q x H else tb σ H Q
def AndC (K : PySem.W.Frag) (tb : TE) (σ : L2.St) (Q : VK) (x : V) (H : Hp) : Prop := ∃ k, TruV K x H k ∧ if k = true then tb σ H Q else Q x H
section
variable {K : PySem.W.Frag} {σ : L2.St} {H : Hp} {Q : VK} {QS : Str → Hp → Prop} {te ta tb : TE} {ts : List TE} {acc y : Str} {i : Int}
end
/-! ### bags that are compared -/
section
variable {K : PySem.W.Frag} {H : Hp} {Q : VK} {v w : V} {ps qs : Bag}
end
end TP

namespace TP
open PySem PySem.Spec PyProof.Rows L2
/-! ### dicts that are compared -/
def rNeDt : R2 := fun x y H Q => ∃ a b s t, x = .ref a ∧ y = .ref b ∧ H a = some (.dK (kvOf s)) ∧ H b = some (.dK (kvOf t)) ∧ TabOk s ∧ s.Perm t ∧ Q (.bl false) H
end TP

namespace TP
open PySem PySem.Spec PyProof.Rows L2
/-! ### sorted(..) of pairs of a name and a number -/
def PairAt (h : Heap) (v : Value) (y : Str) (i : Int) : Prop := ∃ a t u o n, v = Value.ref a ∧ h.get? a = some o ∧ o.cls = .type "tuple" ∧ o.data = .seq #[Value.str y t, Value.int i u] n
def nmAt (h : Heap) (v : Value) : Str := match v with
  | .ref a => match h.get? a with
    | some o => match o.data with
      | .seq its _ => match its[0]? with
        | some (Value.str y _) => y
        | _ => Str.empty
      | _ => Str.empty
    | none => Str.empty
  | _ => Str.empty
theorem PairAt.nm {h : Heap} {v : Value} {y : Str} {i : Int} (x : PairAt h v y i) : nmAt h v = y := by
  obtain ⟨a, t, u, o, n, rfl, ho, hc, hd⟩ := x
  unfold nmAt
  simp only [ho, hd]
  rfl
theorem PairAt.keeps {h h' : Heap} {v : Value} {y : Str} {i : Int} (x : PairAt h v y i) (k : ∀ b o, h.get? b = some o → o.cls = .type "tuple" → h'.get? b = some o) : PairAt h' v y i := by
  obtain ⟨a, t, u, o, n, rfl, ho, hc, hd⟩ := x
  exact ⟨a, t, u, o, n, rfl, k a o ho hc, hc, hd⟩
section
variable {prog : Program} {w : World} {A : Around} {E : Value → Shared → Prop} {s : Shared}
end
/-! the rank of a name among names -/
def rankS (l : List Str) (y : Str) : Int := ((l.filter fun x => decide (ltS x y)).length : Nat)
def rSortedB (K : PySem.W.Frag) : List V → Hp → VK → Prop := fun vs H Q => ∃ (a : Addr) (xs : List V) (ps : Bag), vs = [V.ref a] ∧ SqL K H a xs ∧ DpAll K H xs (ps.map pairD) ∧ (keys ps).Nodup ∧ ps.length < 64 ∧
  ∀ (ys : List V) (qs : Bag) (p : Addr), qs.Perm ps → (qs.Pairwise fun a b => ltS a.1 b.1) → DpAll K H ys (qs.map pairD) → H p = none → Q (.ref p) (upd H p (.lst ys))
section
variable {X : Cx}
end
end TP

namespace TP
open PySem PySem.Spec PyProof.Rows L2
/-! ### a list taken apart -/
/-! ### data by names -/
/-- a table in the order of its names, zeros too -/
def tabF (t : Bag) (ys : List Str) : Bag := ys.map fun y => (y, getT t y)
/-! ### true counts that fit -/
structure FitV (c : Int) (ps : Bag) (d : Int) (fs : Bag) : Prop where
  ok : BagOk fs
  len : fs.length ≤ 12
  low : ∀ n, getT ps n ≤ getT fs n
  hi : ∀ n, getT fs n ≤ getT ps n + d
  sum : sumC fs = sumC ps + d * (c + 1)
end TP

namespace TP
open PySem PySem.Spec PyProof.Rows L2
/-! ### == and != of an object and any value -/
section
variable {prog : Program} {w : World} {A : Around} {E : Value → Shared → Prop} {s : Shared} {K : PySem.W.Frag} {x C f : Addr} {ox : Obj} {od : Option Obj} {b tb : Value}
end
def rCmpO (K : PySem.W.Frag) (neg : Bool) (C : Addr) (sp : Sp) (js : List Nat) (E : XK) : R2 := fun x y H Q => ∃ a dx fl t, x = .ref a ∧ H a = some (.ins C dx fl) ∧ TyX K H y t ∧ (t = .ref C ∨ PySem.W.kitOne K t (.ref C) = some false) ∧
  sp (pick js ([x, y] ++ [] ++ [])) H (fun v H' => ∃ c : Bool, v = .bl c ∧ Q (.bl (if neg then !c else c)) H') E
section
variable {X : Cx} {CX : CXT} {k n : Nat} {C q : Str} {st : Stmt} {ps : List Str} {js : List Nat} {sp : Sp} {E : XK} {fs : List Str} (K : PySem.W.Frag)
end
section
variable {K : PySem.W.Frag} {mg : Str → Option Value} {H : Hp} {Q : VK} {v w : V} {c d : Int} {ps qs : Bag} {sp : Sp} {js : List Nat} {E : XK} {neg : Bool}
end
end TP

namespace TP
open PySem PySem.Spec PyProof.Rows L2
/-! ### the shown text of a summary's attributes is one to one -/
section
open TL
def encP (p : Str × Int) : List Nat := [40, 39] ++ (tl p.1 ++ 39 :: ([44, 32] ++ (numL p.2.toNat ++ 41 :: [])))
def contP : Bag → List Nat
  | [] => []
  | p :: r => [44, 32] ++ (encP p ++ contP r)
def bodyP : Bag → List Nat
  | [] => []
  | p :: r => encP p ++ contP r
def tailP (n : Nat) : List Nat := if n = 1 then [44, 41] else [41]
end
/-! ### all that a summary tells of itself, shown -/
def okS (x : Str) : Prop := ∀ c ∈ x.cps.toList, c < 16 ^ 8
def rText (c : Int) (ps : Bag) : Str := ("Summary(" : Str) ++ intS c ++ (", '" : Str) ++ cText ps ++ ("')" : Str)
def shA (c : Int) (ps : Bag) : List PyData := [.int c, bagD ps, .int (ps.length : Nat), .bool (((ps.length : Nat) : Int) != 0), .int (sumC ps), .bool (decide ((ps.length : Int) = c)), .int (getT ps "a")]
def shB (c : Int) (ps : Bag) : List PyData := [.str (cText ps), .str (rText c ps), .bool true]
def shD (c : Int) (ps : Bag) : PyData := .list (shA c ps ++ shB c ps)
/-! ### lists of summaries -/
theorem sum_t {K : PySem.W.Frag} {H H' : Hp} {v : V} {c : Int} {ps : Bag} (s : SameT H H') (h : SumO K H v c ps) : SumO K H' v c ps := by
  obtain ⟨a, dx, b, rfl, h1, h2⟩ := h
  exact ⟨a, dx, b, rfl, s _ _ h1 (fun _ => nofun) (fun _ => nofun), dp_flat s h2 (flat_bag ps)⟩
def Sums (K : PySem.W.Frag) (H : Hp) (lo hi B : Int) (ms : List V) : Prop := ∀ y ∈ ms, ∃ d qs, SumO K H y d qs ∧ SumV d qs ∧ lo ≤ d ∧ d ≤ hi ∧ sumC qs ≤ B
section
variable {K : PySem.W.Frag} {H H' : Hp} {lo hi B : Int} {ms : List V}
theorem Sums.same (s : Same H H') (h : Sums K H lo hi B ms) : Sums K H' lo hi B ms := fun y hy => by
  obtain ⟨d, qs, h1, h2⟩ := h y hy
  exact ⟨d, qs, sum_same s h1, h2⟩
theorem Sums.t (s : SameT H H') (h : Sums K H lo hi B ms) : Sums K H' lo hi B ms := fun y hy => by
  obtain ⟨d, qs, h1, h2⟩ := h y hy
  exact ⟨d, qs, sum_t s h1, h2⟩
theorem Sums.snoc {v : V} {d : Int} {qs : Bag} (h : Sums K H lo hi B ms) (ho : SumO K H v d qs) (hv : SumV d qs) (h1 : lo ≤ d) (h2 : d ≤ hi) (h3 : sumC qs ≤ B) : Sums K H lo hi B (ms ++ [v]) := fun y hy => by
  rcases List.mem_append.mp hy with h' | h'
  · exact h y h'
  · rw [List.mem_singleton.mp h']; exact ⟨d, qs, ho, hv, h1, h2, h3⟩
theorem Sums.app {ns : List V} (h : Sums K H lo hi B ms) (h' : Sums K H lo hi B ns) : Sums K H lo hi B (ms ++ ns) := fun y hy => by
  rcases List.mem_append.mp hy with z | z
  · exact h y z
  · exact h' y z
theorem Sums.le {lo' hi' B' : Int} (h : Sums K H lo hi B ms) (h1 : lo' ≤ lo) (h2 : hi ≤ hi') (h3 : B ≤ B') : Sums K H lo' hi' B' ms := fun y hy => by
  obtain ⟨d, qs, a1, a2, a3, a4, a5⟩ := h y hy
  exact ⟨d, qs, a1, a2, by omega, by omega, by omega⟩
end
/-! ### values that are no objects of an own class -/
def Plain (K : PySem.W.Frag) (H : Hp) (z : V) : Prop := (∃ e, Dp K H z e) ∨ (∃ a xs, z = .ref a ∧ H a = some (.lst xs)) ∨ ∃ a kvs, z = .ref a ∧ H a = some (.dK kvs)
theorem Plain.same {K : PySem.W.Frag} {H H' : Hp} {z : V} (s : Same H H') (h : Plain K H z) : Plain K H' z := by
  rcases h with ⟨e, h⟩ | ⟨a, xs, rfl, h⟩ | ⟨a, xs, rfl, h⟩
  · exact .inl ⟨e, dp_same s h⟩
  · exact .inr (.inl ⟨a, xs, rfl, s _ _ h⟩)
  · exact .inr (.inr ⟨a, xs, rfl, s _ _ h⟩)
theorem Plain.ty {K : PySem.W.Frag} {H : Hp} {z : V} (h : Plain K H z) : ∃ T, T ∈ ["NoneType", "bool", "int", "str", "list", "tuple", "dict"] ∧ TyX K H z (.type T) := by
  rcases h with ⟨e, h⟩ | ⟨a, xs, rfl, h⟩ | ⟨a, xs, rfl, h⟩
  · exact ⟨_, by cases e <;> simp [tyD], ty_dp h⟩
  · exact ⟨"list", by simp, .base (.lst h)⟩
  · exact ⟨"dict", by simp, .base (.dK h)⟩
end TP

namespace TP
open PySem PySem.Spec PyProof.Rows L2
/-! ### slots (the class Replacing) -/
abbrev repF : List Str := ["slots", "counts", "__bool__"]
structure RepV (c : Int) (ps : Bag) : Prop where
  c2 : 2 ≤ c
  c9 : c ≤ 9
  ok : BagOk ps
  len : (ps.length : Int) ≤ c
def RepO (K : PySem.W.Frag) (H : Hp) (v : V) (c : Int) (ps : Bag) : Prop := ∃ a dx b, v = .ref a ∧ H a = some (.ins (He.ga K "Replacing") dx [("slots", .int c), ("counts", b)]) ∧ Dp K H b (bagD ps)
def spInitR (K : PySem.W.Frag) : Sp := fun vs H Q _ => ∃ (x dx : Addr) (c : Int) (ps : Bag) (b : V), vs = [.ref x, .int c, b] ∧ H x = some (.ins (He.ga K "Replacing") dx []) ∧ Dp K H b (bagD ps) ∧ RepV c ps ∧
  ∀ H', SameB x H H' → H' x = some (.ins (He.ga K "Replacing") dx [("slots", .int c), ("counts", b)]) → Q .non H'
section
variable {K : PySem.W.Frag} {mg : Str → Option Value} {H H' : Hp} {Q : VK} {v : V} {c : Int} {ps : Bag}
end
section
variable {K : PySem.W.Frag} {mg : Str → Option Value} {H H' : Hp} {Q : VK} {v w : V} {c d : Int} {ps qs : Bag} {sp : Sp} {js : List Nat} {E : XK} {neg : Bool}
end
/-! ### what slots tell of themselves -/
def rTextR (c : Int) (ps : Bag) : Str := ("Replacing(" : Str) ++ intS c ++ (", '" : Str) ++ cText ps ++ ("')" : Str)
def leastR (c : Int) (ps : Bag) : Int := if (ps.length : Int) = c then minV ps else 0
def tellD (c : Int) (ps : Bag) : PyData := .list [.int c, bagD ps, .int (leastR c ps), .int (ps.length : Nat), .bool (!decide (ps = [])), .str (cText ps), .str (rTextR c ps)]
/-! ### pairs of a number of slots and counts -/
def PrO (K : PySem.W.Frag) (H : Hp) (y : V) : Prop := ∃ t w d qs, y = .ref t ∧ SqT K H t [.int d, w] ∧ Dp K H w (bagD qs) ∧ 2 ≤ d ∧ d ≤ 9 ∧ BagOk qs ∧ BagS qs ∧ qs.length ≤ 100
theorem PrO.same {K : PySem.W.Frag} {H H' : Hp} {y : V} (s : Same H H') (h : PrO K H y) : PrO K H' y := by
  obtain ⟨t, w, d, qs, e, h1, h2, h3⟩ := h
  exact ⟨t, w, d, qs, e, sqt_same s h1, dp_same s h2, h3⟩
theorem PrO.t {K : PySem.W.Frag} {H H' : Hp} {y : V} (s : SameT H H') (h : PrO K H y) : PrO K H' y := by
  obtain ⟨t, w, d, qs, e, h1, h2, h3⟩ := h
  exact ⟨t, w, d, qs, e, s.sqt h1, dp_flat s h2 (flat_bag qs), h3⟩
/-! ### a tuple times 0 or 1 -/
def rRepB (K : PySem.W.Frag) : R2 := fun x y H Q => ∃ l k xs, x = .ref l ∧ y = .int k ∧ SqT K H l xs ∧ xs ≠ [] ∧ ((k = 0 ∧ ∀ p, H p = none → Q (.ref p) (upd H p (.tup []))) ∨ (k = 1 ∧ Q (.ref l) H))
end TP

namespace TP
open PySem PySem.Spec PyProof.Rows L2
/-! ### {**a, **b} -/
section
variable {prog : Program} {w : World} {A : Around} {E : Value → Shared → Prop} {s : Shared}
end
/-- {**a, **b}: the new dict stands while the parts are read -/
def tDMrg (ta tb : TE) : TE := fun σ H Q => ∀ p, H p = none → ta σ (upd H p (.dK [])) fun x H1 => ∃ a kvs, x = .ref a ∧ a ≠ p ∧ Rd H1 a (.dK kvs) ∧ H1 p = some (.dK []) ∧
  tb σ (upd H1 p (.dK (mergeK [] kvs))) fun y H2 => ∃ b kvs2, y = .ref b ∧ b ≠ p ∧ Rd H2 b (.dK kvs2) ∧ H2 p = some (.dK (mergeK [] kvs)) ∧ kvs.length + kvs2.length ≤ 10000 ∧ Q (.ref p) (upd H2 p (.dK (mergeK (mergeK [] kvs) kvs2)))
/-! tables joined -/
def mrgT (s t : Bag) : Bag := t.foldl (fun acc q => putT acc q.1 q.2) s
/-! ### true counts that fit, by names -/
def FitB (ps : Bag) (d N : Int) (qs : Bag) : Prop := sumC qs = N ∧ ∀ n, getT ps n ≤ getT qs n ∧ getT qs n ≤ getT ps n + d
theorem FitV.b {c : Int} {ps : Bag} {d N : Int} {fs : Bag} (h : FitV c ps d fs) (hN : N = sumC ps + d * (c + 1)) : FitB ps d N fs := ⟨by rw [h.sum, hN], fun n => ⟨h.low n, h.hi n⟩⟩
/-! ### values that are bags -/
def Bags (K : PySem.W.Frag) (H : Hp) (xs : List V) : Prop := ∀ y ∈ xs, ∃ qs, Dp K H y (bagD qs) ∧ BagOk qs ∧ qs.length ≤ 12
section
variable {K : PySem.W.Frag} {H H' : Hp} {xs ys : List V}
theorem Bags.same (h : Bags K H xs) (s : Same H H') : Bags K H' xs := fun y hy => by
  obtain ⟨qs, h1, h2⟩ := h y hy
  exact ⟨qs, dp_same s h1, h2⟩
theorem Bags.t (h : Bags K H xs) (s : SameT H H') : Bags K H' xs := fun y hy => by
  obtain ⟨qs, h1, h2⟩ := h y hy
  exact ⟨qs, dp_flat s h1 (flat_bag qs), h2⟩
theorem Bags.app (h : Bags K H xs) (h' : Bags K H ys) : Bags K H (xs ++ ys) := fun y hy => (List.mem_append.mp hy).elim (h y) (h' y)
theorem Bags.one {v : V} {qs : Bag} (h : Dp K H v (bagD qs)) (ho : BagOk qs) (hl : qs.length ≤ 12) : Bags K H [v] := fun y hy => by
  rw [List.mem_singleton.mp hy]; exact ⟨qs, h, ho, hl⟩
theorem Bags.two {v w : V} {ps qs : Bag} (h : Dp K H v (bagD ps)) (ho : BagOk ps) (hl : ps.length ≤ 12) (h' : Dp K H w (bagD qs)) (ho' : BagOk qs) (hl' : qs.length ≤ 12) : Bags K H [v, w] := (Bags.one h ho hl).app (.one h' ho' hl')
end
end TP

namespace TP
open PySem PySem.Spec PyProof.Rows L2
end TP

namespace TP
open PySem PySem.Spec PyProof.Rows L2
/-! ### min of texts, max with a default -/
def rMinS (K : PySem.W.Frag) : List V → Hp → VK → Prop := fun vs H Q => ∃ (a : Addr) (ws : List Str), vs = [V.ref a] ∧ SqL K H a (ws.map V.str) ∧ 0 < ws.length ∧ ∀ m, m ∈ ws → (∀ y, y ∈ ws → ¬ ltS y m) → Q (.str m) H
def rMaxD (K : PySem.W.Frag) : List V → List V → Hp → VK → Prop := fun vs zs H Q => ∃ (a : Addr) (ns : List Int) (d : Int), vs = [V.ref a] ∧ zs = [.int d] ∧ SqL K H a (ns.map V.int) ∧ (ns = [] → Q (.int d) H) ∧ ∀ m, m ∈ ns → (∀ y, y ∈ ns → y ≤ m) → Q (.int m) H
section
variable {X : Cx}
end
section
variable {K : PySem.W.Frag} {H : Hp} {Q : VK} {a : Addr}
/-! del d[k], d[k] += v -/
def DelC (x y : V) (H : Hp) (k : Hp → Prop) : Prop := ∃ a kvs kk, x = .ref a ∧ H a = some (.dK kvs) ∧ y = kV kk ∧ (valV kvs kk).isSome = true ∧ k (upd H a (.dK (dropK kvs kk)))
def dropT (t : Bag) (n : Str) : Bag := t.filter fun p => decide (p.1 ≠ n)
/-- d[k] += v of numbers -/
def AugC (x y : V) (tv : TE) (σ : L2.St) (rd : V → V → Hp → VK → Prop) (H : Hp) (k : Hp → Prop) : Prop := ∃ a v, x = .ref a ∧ DGet H a y (some v) ∧ tv σ H fun y2 H3 => rd v y2 H3 fun z H4 => ∃ H5, DPut H4 a y z H5 ∧ k H5
end
end TP

namespace TP
open PySem PySem.Spec PyProof.Rows L2
/-! ### the replacing rule -/
open Classical in
noncomputable def minN (l : List Str) : Str := if h : ∃ m, m ∈ l ∧ ∀ y ∈ l, ¬ ltS y m then Classical.choose h else Str.empty
def losersT (t : Bag) : List Str := (t.filter fun p => decide (p.2 = minV t)).map (·.1)
noncomputable def loserT (t : Bag) : Str := minN (losersT t)
open Classical in
noncomputable def plcT (c : Int) (t : Bag) (n : Str) (m : Int) : Bag :=
  if n ∈ keys t then putT t n (getT t n + m) else if (t.length : Int) = c then dropT t (loserT t) ++ [(n, minV t + m)] else t ++ [(n, m)]
/-! what the least count is, by the numbers -/
def InStep (c : Int) (t t' : Bag) (n : Str) (m : Int) : Prop := (∀ x, getT (lowT t' (leastR c t')) x = getT (arrT (c - 1) (lowT t (leastR c t)) n m).1 x) ∧ leastR c t' = leastR c t + (arrT (c - 1) (lowT t (leastR c t)) n m).2
/-- above the least count, and how much it rose -/
def Above (c : Int) (t t' s : Bag) (l : Int) : Prop := (lowT t' (leastR c t')).Perm s ∧ leastR c t' = leastR c t + l
noncomputable def plcs (c : Int) (t : Bag) (rs : Bag) : Bag := rs.foldl (fun t r => plcT c t r.1 r.2) t
end TP

namespace TP
open PySem PySem.Spec PyProof.Rows L2
/-! ### sorted of a tuple of pairs -/
section
variable {prog : Program} {w : World} {A : Around} {E : Value → Shared → Prop} {s : Shared}
end
def rSortedBT (K : PySem.W.Frag) : List V → Hp → VK → Prop := fun vs H Q => ∃ (a : Addr) (xs : List V) (ps : Bag), vs = [V.ref a] ∧ SqT K H a xs ∧ DpAll K H xs (ps.map pairD) ∧ (keys ps).Nodup ∧ ps.length < 64 ∧
  ∀ (ys : List V) (qs : Bag) (p : Addr), qs.Perm ps → (qs.Pairwise fun a b => ltS a.1 b.1) → DpAll K H ys (qs.map pairD) → H p = none → Q (.ref p) (upd H p (.lst ys))
section
variable {X : Cx}
end
/-! d.pop(k) -/
end TP

namespace TP
open PySem PySem.Spec PyProof.Rows L2
def RevC (K : PySem.W.Frag) (x : V) (H : Hp) (Q : VK) : Prop := ∃ a xs, x = .ref a ∧ SqL K H a xs ∧ ∀ p, H p = none → Q (.ref p) (upd H p (.lst xs.reverse))
/-! ### bags with any numbers, shown -/
def BagI (ps : Bag) : Prop := ∀ p ∈ ps, isName p.1 = true ∧ p.2.natAbs ≤ 10 ^ 100
/-! ### losses -/
def lossT (p1 p2 p3 : Bag) : Bag := tabOf (p1 ++ p2 ++ sgnB (-1) p3)
def nzF (t : Bag) (ys : List Str) : Bag := ys.filterMap fun y => if getT t y = 0 then none else some (y, getT t y)
/-- the numbers of a table but the zeros, ascending -/
def NzB (t ls : Bag) : Prop := ∃ ys : List Str, ys.Perm (keys t) ∧ ys.Pairwise ltS ∧ ls = nzF t ys
end TP

namespace TP
open PySem PySem.Spec PyProof.Rows L2
/-! ### obstacles of merging -/
def maxV0 (t : Bag) : Int := (t.map (·.2)).foldl max 0
def loD (c : Int) (t : Bag) : Int := max (maxV0 t) ((sumC t + 2 * c - 1) / (2 * c))
def hiD (c : Int) (t : Bag) : Int := sumC t / (c + 1)
def GainR (t : Bag) (gs : List Str) : Prop := ∃ ys : List Str, ys.Perm (keys t) ∧ ys.Pairwise ltS ∧ gs = ys.filter fun y => decide (getT t y < 0)
/-- what merge_obstacle tells -/
def ObsD (c : Int) (t : Bag) (d : PyData) : Prop := ∃ gs, GainR t gs ∧ ((∃ y r, gs = y :: r ∧ d = .tuple [.str "gain", .str y]) ∨ (gs = [] ∧ d = if loD c t ≤ hiD c t then .none else .tuple [.str "range", .int (loD c t), .int (hiD c t)]))
def noneD : PyData → Bool
  | .none => true
  | _ => false
end TP

namespace TP
open PySem PySem.Spec PyProof.Rows L2
/-! ### xs.extend(t), t a tuple -/
def rExtendT (K : PySem.W.Frag) : V → List V → Hp → VK → Prop := fun x vs H Q => ∃ l b xs zs, x = .ref l ∧ vs = [.ref b] ∧ H l = some (.lst xs) ∧ SqT K H b zs ∧ xs.length + zs.length ≤ sizeLine ∧ Q .non (upd H l (.lst (xs ++ zs)))
/-! ### orders one behind the other -/
end TP

namespace TP
open PySem PySem.Spec PyProof.Rows L2
/-! ### how many names can be ahead -/
def grd (d : Int) (z : Int × Int) (ns : List Int) : Int × Int := ns.foldl (fun z n => if n ≤ min d z.1 then (z.1 - n, z.2 + 1) else z) z
/-- a part of a list -/
def PartOf (S l : List Int) : Prop := ∃ r, (S ++ r).Perm l
def worth (g d U : Int) (q : Int × Int) : Int := q.1 + if g ≤ d then (U - q.2) / g else 0
/-! all choices -/
def choF (acc : List (Int × Int)) (n : Int) : List (Int × Int) := acc ++ acc.map fun q => (q.1 + 1, q.2 + n)
def cho (ns : List Int) : List (Int × Int) := ns.foldl choF [(0, 0)]
def bestF (g d U : Int) (b : Int) (q : Int × Int) : Int := if q.2 ≤ U then max b (worth g d U q) else b
def iiD (q : Int × Int) : PyData := .tuple [.int q.1, .int q.2]
def needL (g : Int) (ps : Bag) (x : Str) : List Int := (ps.filter fun p => !decide (p.1 = x)).map fun p => if g - p.2 > 0 then g - p.2 else 0
def aheadL (c d : Int) (ps : Bag) (x : Str) : Int := (cho ((needL (getT ps x + 1) ps x).filter fun n => decide (n ≤ d))).foldl (bestF (getT ps x + 1) d (d * (c + 1))) 0
end TP

namespace TP
open PySem PySem.Spec PyProof.Rows L2 TL
/-! ### texts of orders -/
def wrdS (p : Str × Int) : Str := if 1 < p.2 then p.1 ++ ("*" : Str) ++ intS p.2 else p.1
def oText (rs : Bag) : Str := if rs = [] then "-" else Txt.join " " (rs.map wrdS)
def rIntS : List V → Hp → VK → Prop := fun xs H Q => ∃ (a : Str) (n : Int), xs = [.str a] ∧ intText? a = some n ∧ a.length ≤ 640 ∧ Q (.int n) H
/-! ### runs that are cut -/
def PartsOf (n : Str) (m : Int) (qs : Bag) : Prop := qs ≠ [] ∧ (∀ q ∈ qs, q.1 = n ∧ 1 ≤ q.2) ∧ sumC qs = m
inductive CutOf : Bag → Bag → Prop
  | nil : CutOf [] []
  | snoc {rs qs ps : Bag} {r : Str × Int} (h : CutOf rs qs) (hp : PartsOf r.1 r.2 ps) : CutOf (rs ++ [r]) (qs ++ ps)
def Alike (c : Int) (ps rs qs : Bag) : Prop := OrdOk qs ∧ (playT c ps qs).1.Perm (playT c ps rs).1 ∧ (playT c ps qs).2 = (playT c ps rs).2 ∧ ∀ x, cntC qs x = cntC rs x
end TP

namespace TP
open PySem PySem.Spec PyProof.Rows L2
/-! ### except (c1, c2, c3) as n -/
def wAs3 (K : PySem.W.Frag) (c1 c2 c3 : Value) (i : Nat) (ts : Addr → Value → Option Addr → TS) (Wout : WX) (D : Ends) : WX := fun cls d σ H =>
  ∃ b, PySem.W.exmAny K cls [c1, c2, c3] = some b ∧ (b = true → ∀ a, H a = none → ts a cls d { nx := fun σ' H' => D.nx (σ'.set i none) H', rt := D.rt, bk := fun σ' H' => D.bk (σ'.set i none) H', ct := fun σ' H' => D.ct (σ'.set i none) H' } (σ.set i (some (.ref a))) H) ∧
    (b = false → Wout cls d σ H)
section
variable {X : Cx} {x1 x2 x3 n : Str} {c1 c2 c3 : Value} {i kk : Nat} {body suite : List Stmt} {b₀ : Stmt} {np1 np2 np3 tpos pos pos' : Pos} {tb : WX → TS} {ts : Addr → Value → Option Addr → TS} {Wout : WX}
end
end TP
namespace TPX
open PySem PySem.W PySem.Spec PySem.Calls PyProof.Rows
section
variable {prog : Program} {w : World} {A : Around} {E : Value → Shared → Prop} {s : Shared} {K : Frag} {x D : Addr} {ox : Obj} {od : Option Obj}
end
end TPX
namespace TP
open PySem PySem.Spec PyProof.Rows L2
/-! ### the exception that is held, in the suite and in the defs that it is handed to -/
/-- p is pinned: an exception of the class at D, its dict at dd -/
structure Held (X : Cx) (p : Addr × Obj) (D dd : Addr) : Prop where
  pin : p ∈ X.pn
  z : Zc (.ref D) (some dd) p.2
  f : ∃ vs, p.2.data = .fields vs
def rIsP (K : PySem.W.Frag) (a D dd : Addr) : List V → Hp → VK → Prop := fun xs H Q => ∃ (c : V) (cv : Value) (b : Bool) (fs : List (Str × V)), xs = [.ref a, c] ∧ ClsV c cv ∧ H dd = some (.xd fs) ∧ PySem.W.kitOne K (.ref D) cv = some b ∧ Q (.bl b) H
def rIsPT (K : PySem.W.Frag) (a D dd : Addr) : List V → Hp → VK → Prop := fun xs H Q => ∃ (tp : Addr) (cs : List V) (us : List Value) (b : Bool) (fs : List (Str × V)), xs = [.ref a, .ref tp] ∧ H tp = some (.tup cs) ∧ Paired ClsV cs us ∧ H dd = some (.xd fs) ∧ PySem.W.kitAny K (.ref D) us = some b ∧ Q (.bl b) H
/-- e.f -/
def tXp (a dd : Addr) (f : Str) (te : TE) : TE := fun σ H Q => te σ H fun x H1 => x = .ref a ∧ ∃ (fs : List (Str × V)) (v : V), H1 dd = some (.xd fs) ∧ fs.lookup f = some v ∧ Q v H1
/-! ### defs that are handed the held exception -/
abbrev RoomH := L2H.RoomH
abbrev PinOk := L2H.PinOk
structure FnP (P : Program) (w : World) (K : PySem.W.Frag) (mg : Str → Option Value) (base : Heap) (k : Nat) (f : Addr) (fd : FuncData) (ps : List Str) (sp : Addr × Obj → Sp) : Prop where
  len : ∀ p vs H Q E, sp p vs H Q E → vs.length = ps.length
  run : ∀ (A : Around) (outer : List Env) (s : Shared) (H : Hp) (args : Args) (us : List Value) (vs : List V) (Q : VK) (E : XK) (p : Addr × Obj), RoomH k A → A.guards = some [] → PinOk outer H s p →
    Env0 P w K mg base A outer s H → BindsTo s fd args (ps.zip us) → Vals vs us → sp p vs H Q E → codeAny (model P w) A (.call (.ref f) args) (CR CX0 outer P w H s Q E) s
structure HasP (P : Program) (w : World) (K : PySem.W.Frag) (mg : Str → Option Value) (base : Heap) (k : Nat) (x : Str) (st : Stmt) (ps : List Str) (sp : Addr × Obj → Sp) : Prop where
  ex : ∃ fd, FunD K x x (defArgs st) (defBody st) (defScope st) [] [] (He.ga K x) fd ∧ FnP P w K mg base k (He.ga K x) fd ps sp
  glo : mg x = some (.ref (He.ga K x))
end TP

/-! the end of a law with tables of code objects (turned from HandS.EndTab: FnG in place of FnOk) -/
namespace TP
open PySem PySem.Spec PyProof.Rows L2 LamX
def LawAtG (l : PySem.W.OpenLaw) (w : World) (K : PySem.W.Frag) (k n : Nat) (x : Str) (mg : Str → Option Value) (fa : Addr) (h : Heap) : Prop :=
  ∃ (fd : FuncData) (cs : List (Addr × Addr)) (sp : Sp), (∀ p ∈ cs, h.get? p.2 = some { cls := .none, data := .fields #[] }) ∧ (∀ p ∈ cs, K.lookup p.2 = none) ∧ (∀ p ∈ cs, PySem.W.CodeHd h p.1 p.2) ∧ (∀ (s : Shared) (u : Value), BindsTo s fd ⟨[u], []⟩ [(x, u)]) ∧
    (∀ (H : Hp) (a : Addr) (ns : List Int), ns.length ≤ n → (∀ p ∈ cs, H p.2 = some (.tbl #[])) → SqL K H a (ns.map V.int) → sp [.ref a] H (fun v _ => v = .bl true) fun _ _ _ => False) ∧
    ∀ base : Heap, K.In base → base.Ns mainGlobals mg → (∀ p ∈ cs, TabB base mg p.1 p.2) → FnG l.prog w K mg base CX0 k fa fd [x] sp
end TP

/-! own error classes over ValueError, LookupError, ArithmeticError (turned from HandS.Exc and HandS.ExcInit: there ValueError alone) -/
namespace TPE
open PySem
inductive XB | ve | le | ae
def XB.nm : XB → String
  | .ve => "ValueError"
  | .le => "LookupError"
  | .ae => "ArithmeticError"
def XB.nw : XB → String
  | .ve => "ValueError.__new__"
  | .le => "LookupError.__new__"
  | .ae => "ArithmeticError.__new__"
def XB.it : XB → String
  | .ve => "ValueError.__init__"
  | .le => "LookupError.__init__"
  | .ae => "ArithmeticError.__init__"
abbrev XB.tl (b : XB) : List Value := [.type b.nm, .type "Exception", .type "BaseException", .type "object"]
theorem base (b : XB) : ExcBaseFacts b.nm b.nw b.it b.tl := by
  cases b
  · exact F.excBase_ValueError
  · exact F.excBase_LookupError
  · exact F.excBase_ArithmeticError
/-- own classes, then the base's -/
def refsXB (b : XB) : List Value → Bool
  | .ref _ :: r => refsXB b r
  | l => l == b.tl
end TPE
namespace TPE
open PySem PySem.HandSPX Builtin Builtin.ObjectAttr
section
variable {prog : Program} {w : World} {A : Around} {E : Value → Shared → Prop} {R : Result → Shared → Prop} {hp : Heap} {g : Array GenState} {d : Drawn} {t : Nat} {os : OsState}
end
end TPE
namespace TP
open PySem PySem.Spec PyProof.Rows L2
structure OexB (K : PySem.W.Frag) (C : Addr) : Prop where
  cls : ∃ xb nm q N bs bm sn sub ab col dd k0 k1 k2 k3 k5, K.lookup C = some (excClassObj nm q C N bs bm true sn sub ab col dd k0 k1 k2 k3 k5 (TPE.XB.nw xb)) ∧ TPE.refsXB xb bm = true
  sa : PySem.W.findIn K (.ref C) "__setattr__" = some (some (.builtin "object.__setattr__"))
  exC : PySem.W.subIn K (.ref C) (.type "BaseException") = some true
  tyC : PySem.W.typeIn K (.ref C) = some (.type "type")
  kC : PySem.W.keepIn K (.ref C) = true
section
variable {X : Cx} {pins : List (Addr × Obj)} {σ : L2.St} {H : Hp} {s : Shared} {a C dx : Addr} {f : Str} {y : V} {u : Value} {fs : List (Str × V)} {Q : Unit → Shared → Prop} {E : Value → Shared → Prop} {A : Around}
end
def tOstB (K : PySem.W.Frag) (f : Str) (to te : TE) : TS := fun D σ H => te σ H fun y H1 => to σ H1 fun x H2 => ∃ a C : Addr, x = .ref a ∧ OexB K C ∧ PySem.W.findIn K (.ref C) f = some none ∧
  (H2 a = some (exo a C none) ∧ ∀ dx, H2 dx = none → dx ≠ a → D.nx σ (upd (upd H2 dx (exd dx [(f, y)])) a (exo a C (some dx))))
section
variable {X : Cx} {o e : Expr} {es : List Expr} {to te : TE} {ta : TA} {f : Str} {p p' p1 p2 pos : Pos}
end
/-! ### what the written part says of such a class -/
def oexS (K : PySem.W.Frag) (C : Addr) : Bool := match K.lookup C with
  | some ⟨.type "type", _, .cls cd, sl⟩ => (match cd.mro, sl.toList with
    | .ref C' :: bm, [_, _, _, _, some (.builtin n), _] => C' == C && ((n == "ValueError.__new__" && TPE.refsXB .ve bm || (n == "LookupError.__new__" && TPE.refsXB .le bm || n == "ArithmeticError.__new__" && TPE.refsXB .ae bm)) && (!cd.hasDel && cd.hasDict))
    | _, _ => false)
  | _ => false
/-- an own error class C, its __init__ keeping one value as f -/
structure ExcK (K : PySem.W.Frag) (mg : Str → Option Value) (C f : Str) : Prop where
  glo : mg C = some (.ref (He.ga K C))
  oex : OexB K (He.ga K C)
  na : PySem.W.findIn K (.ref (He.ga K C)) f = some none
  ini : PySem.W.findIn K (.ref (He.ga K C)) "__init__" = some (some (.ref (He.ma K (He.ga K C) "__init__")))
  fin : PySem.W.typeIn K (.ref (He.ma K (He.ga K C) "__init__")) = some (.type "function")
  ec : ExcC K (He.ga K C)
def exkB (K : PySem.W.Frag) (C f : Str) : Bool :=
  (He.Fa.glo C).ok K && (oexS K (He.ga K C) && (He.eqO (PySem.W.findIn K (.ref (He.ga K C)) "__setattr__") (some (some (.builtin "object.__setattr__"))) && (decide (PySem.W.subIn K (.ref (He.ga K C)) (.type "BaseException") = some true) && (decide (PySem.W.typeIn K (.ref (He.ga K C)) = some (.type "type")) &&
    (PySem.W.keepIn K (.ref (He.ga K C)) && (He.eqO (PySem.W.findIn K (.ref (He.ga K C)) f) (some none) && (He.eqO (PySem.W.findIn K (.ref (He.ga K C)) "__init__") (some (some (.ref (He.ma K (He.ga K C) "__init__")))) &&
    (decide (PySem.W.typeIn K (.ref (He.ma K (He.ga K C) "__init__")) = some (.type "function")) && (He.eqO (PySem.W.findIn K (.ref (He.ga K C)) "__getattribute__") (some (some (.builtin "BaseException.__getattribute__"))) &&
    (He.eqO (PySem.W.findIn K (.ref (He.ga K C)) "__getattr__") (some none) && (PySem.W.hasDictIn K (He.ga K C) && (He.eqO (PySem.W.findIn K (.ref (He.ga K C)) "__class__") (some (some (.builtin "object.__class__"))) &&
    (He.eqO (PySem.W.specialIn K (.builtin "object.__class__") "__get__") (some (some (.builtin "getset_descriptor.__get__"))) && (decide (PySem.W.takesIn K (.builtin "object.__class__") = some true) && decide (PySem.W.mroIn K (He.ga K C) (.type "object") = some true)))))))))))))))
/-! ### C(e) raised -/
def sp_ini (K : PySem.W.Frag) (C f : Str) : Sp := fun vs H Q _ => ∃ (a : Addr) (y : V), vs = [.ref a, y] ∧ H a = some (exo a (He.ga K C) none) ∧ ∀ dx, H dx = none → dx ≠ a → Q .non (upd (upd H dx (exd dx [(f, y)])) a (exo a (He.ga K C) (some dx)))
def RaiC (K : PySem.W.Frag) (C f : Str) (vs : List V) (H1 : Hp) (Q : XK) : Prop := vs.length ≤ 1000 ∧ ∀ a, H1 a = none → sp_ini K C f (.ref a :: (vs ++ [])) (upd H1 a (exo a (He.ga K C) none))
  (fun v H2 => v = .non ∧ ∃ (d : Addr) (fs : List (Str × V)), H2 a = some (exo a (He.ga K C) (some d)) ∧ H2 d = some (exd d fs) ∧ H1 d = none ∧ Q (.ref (He.ga K C)) (some d) (upd (del H2 a) d (.xd fs))) (fun _ _ _ => False)
/-- the class C can be made: its __init__ keeps its promise -/
structure HasX (P : Program) (w : World) (K : PySem.W.Frag) (mg : Str → Option Value) (base : Heap) (C f : Str) : Prop where
  k : ExcK K mg C f
  ex : ∃ (fd : FuncData) (ps : List Str), FnOk P w K mg base CX0 2 (He.ma K (He.ga K C) "__init__") fd ps (sp_ini K C f) ∧ L2.Binds K fd ps []
/-- raise C(e), out of the def -/
def tRai (K : PySem.W.Frag) (C f : Str) (W : WX) (te : TE) : TS := fun _ σ H => te σ H fun y H1 => RaiC K C f [y] H1 fun cls d H' => W cls d σ H'
/-! ### defs that may raise -/
abbrev CXe (P : Program) (w : World) : CXT := L2.CX P w
end TP

namespace TP
open PySem PySem.Spec PyProof.Rows L2 LamX
/-! ### the def that calls what it got and tells what was raised -/
/-- an own error: its class, its field, its word -/
abbrev ExE := Str × Str × Str
def exTab : List ExE := [("InvalidCapacity", "capacity", "capacity"), ("InvalidName", "name", "name"), ("InvalidTimes", "times", "times"), ("InvalidCounts", "index", "counts"), ("InvalidSummary", "index", "summary"), ("InvalidOrder", "index", "order"), ("InvalidPlan", "index", "plan"), ("InvalidText", "text", "text"),
  ("InvalidSize", "size", "size"), ("InvalidNumber", "number", "number"), ("InvalidSlots", "slots", "slots"), ("InvalidIndex", "index", "index"), ("InvalidAction", "index", "action"), ("InvalidLine", "line", "line"), ("NotASummary", "value", "notsummary"),
  ("CapacitiesDiffer", "capacity", "differ"), ("TooManyNames", "found", "names"), ("TooManyActions", "found", "actions")]
def HeldS (K : PySem.W.Frag) (p : Addr × Obj) (H : Hp) (e : ExE) (y : V) (dd : Addr) : Prop := Zc (.ref (He.ga K e.1)) (some dd) p.2 ∧ (∃ vs, p.2.data = .fields vs) ∧ H dd = some (.xd [(e.2.1, y)])
def spKind (K : PySem.W.Frag) : Addr × Obj → Sp := fun p vs H Q _ => ∃ (e : ExE) (y : V) (dd : Addr), vs = [.ref p.1] ∧ e ∈ exTab ∧ HeldS K p H e y dd ∧ ∀ H', Same H H' → Q (.str e.2.2) H'
def spFields (K : PySem.W.Frag) : Addr × Obj → Sp := fun p vs H Q _ => ∃ (e : ExE) (y : V) (dd : Addr), vs = [.ref p.1] ∧ e ∈ exTab ∧ HeldS K p H e y dd ∧ ∀ l H', Same H H' → H' l = some (.lst [y]) → Q (.ref l) H'
def CaughtC (K : PySem.W.Frag) (cls : Value) (d : Option Addr) (H : Hp) (Q : VK) : Prop := ∃ (e : ExE) (y : V) (dd : Addr), e ∈ exTab ∧ cls = .ref (He.ga K e.1) ∧ d = some dd ∧ H dd = some (.xd [(e.2.1, y)]) ∧ ∀ l H', Same H H' → H' l = some (.lst [.str e.2.2, y]) → Q (.ref l) H'
def LstC (xs : List V) (H1 : Hp) (Q : VK) : Prop := xs.length ≤ sizeLine ∧ ∀ p, H1 p = none → Q (.ref p) (upd H1 p (.lst xs))
def TCaught (K : PySem.W.Frag) : (XK → Hp → VK → Prop) → Hp → VK → Prop := fun tl H Q => tl (fun cls d H' => CaughtC K cls d H' Q) H fun v H1 => LstC [.str "returned", v] H1 Q
def tKF (K : PySem.W.Frag) (p : Addr × Obj) : TS := tRet (tOp rCat (tLst (tCons (tCall (spKind K p) [] E0 (tCons (tVar 1) tNil)) tNil)) (tCall (spFields K p) [] E0 (tCons (tVar 1) tNil)))
end TP

namespace TP
open PySem PySem.Spec PyProof.Rows L2
/-! ### all own error classes: what the written part says -/
def exLeaf : List Str := ["InvalidCapacity", "InvalidName", "InvalidTimes", "InvalidCounts", "InvalidSummary", "InvalidOrder", "InvalidPlan", "InvalidText", "InvalidSize", "InvalidNumber", "InvalidSlots", "InvalidIndex", "InvalidAction", "InvalidLine", "NotASummary", "CapacitiesDiffer", "Busy", "NothingToUndo", "TooManyNames", "TooManyActions"]
def exBase : List Str := ["TallyError", "StateError", "SizeError"]
def exFlds : List Str := ["capacity", "name", "times", "index", "text", "size", "number", "slots", "line", "value", "found"]
def exSup (C : Str) : Str := if C = "CapacitiesDiffer" then "StateError" else if C = "TooManyNames" then "SizeError" else if C = "TooManyActions" then "SizeError" else "TallyError"
def exIs (e : ExE) (C : Str) : Bool := decide (C = e.1) || decide (C = exSup e.1)
/-- an own error that is held: what is asked of its class -/
def exhB (K : PySem.W.Frag) (C : Str) : Bool :=
  decide (PySem.W.subIn K (.ref (He.ga K C)) (.type "BaseException") = some true) && (He.eqO (PySem.W.findIn K (.ref (He.ga K C)) "__getattribute__") (some (some (.builtin "BaseException.__getattribute__"))) &&
    (He.eqO (PySem.W.findIn K (.ref (He.ga K C)) "__getattr__") (some none) && (PySem.W.hasDictIn K (He.ga K C) && (He.eqO (PySem.W.findIn K (.ref (He.ga K C)) "__class__") (some (some (.builtin "object.__class__"))) &&
    (He.eqO (PySem.W.specialIn K (.builtin "object.__class__") "__get__") (some (some (.builtin "getset_descriptor.__get__"))) && (decide (PySem.W.takesIn K (.builtin "object.__class__") = some true) && decide (PySem.W.mroIn K (He.ga K C) (.type "object") = some true)))))))
structure ExF (K : PySem.W.Frag) (mg : Str → Option Value) : Prop where
  ec : ∀ e ∈ exTab, ExcC K (He.ga K e.1)
  glo : ∀ C ∈ exLeaf ++ exBase, mg C = some (.ref (He.ga K C))
  kit : ∀ e ∈ exTab, ∀ C ∈ exLeaf ++ exBase, PySem.W.kitOne K (.ref (He.ga K e.1)) (.ref (He.ga K C)) = some (exIs e C)
  kb : ∀ e ∈ exTab, PySem.W.kitOne K (.ref (He.ga K e.1)) (.type "ValueError") = some (exIs e "TallyError") ∧ PySem.W.kitOne K (.ref (He.ga K e.1)) (.type "LookupError") = some (exIs e "StateError") ∧ PySem.W.kitOne K (.ref (He.ga K e.1)) (.type "ArithmeticError") = some (exIs e "SizeError")
  na : ∀ e ∈ exTab, ∀ f ∈ exFlds, PySem.W.findIn K (.ref (He.ga K e.1)) f = some none
  exm : ∀ e ∈ exTab, PySem.W.exmAny K (.ref (He.ga K e.1)) [.ref (He.ga K "TallyError"), .ref (He.ga K "StateError"), .ref (He.ga K "SizeError")] = some true
  free : mg "ValueError" = none ∧ mg "LookupError" = none ∧ mg "ArithmeticError" = none
def exfB (K : PySem.W.Frag) : Bool :=
  exTab.all (fun e => exhB K e.1) && ((exLeaf ++ exBase).all (fun C => (He.Fa.glo C).ok K) && (exTab.all (fun e => (exLeaf ++ exBase).all fun C => decide (PySem.W.kitOne K (.ref (He.ga K e.1)) (.ref (He.ga K C)) = some (exIs e C))) &&
    (exTab.all (fun e => decide (PySem.W.kitOne K (.ref (He.ga K e.1)) (.type "ValueError") = some (exIs e "TallyError")) && (decide (PySem.W.kitOne K (.ref (He.ga K e.1)) (.type "LookupError") = some (exIs e "StateError")) && decide (PySem.W.kitOne K (.ref (He.ga K e.1)) (.type "ArithmeticError") = some (exIs e "SizeError")))) &&
    (exTab.all (fun e => exFlds.all fun f => He.eqO (PySem.W.findIn K (.ref (He.ga K e.1)) f) (some none)) && (exTab.all (fun e => decide (PySem.W.exmAny K (.ref (He.ga K e.1)) [.ref (He.ga K "TallyError"), .ref (He.ga K "StateError"), .ref (He.ga K "SizeError")] = some true)) &&
    ((He.Fa.free "ValueError").ok K && ((He.Fa.free "LookupError").ok K && (He.Fa.free "ArithmeticError").ok K)))))))
section
variable {K : PySem.W.Frag} {mg : Str → Option Value} {H : Hp} {Q : VK} {p : Addr × Obj} {e : ExE} {y : V} {dd : Addr}
end
/-- the errors whose fields the second def tells -/
def exOth : List Str := ["InvalidName", "InvalidTimes", "InvalidText", "InvalidNumber", "InvalidSlots", "InvalidSize", "InvalidLine"]
def spFieldsO (K : PySem.W.Frag) : Addr × Obj → Sp := fun p vs H Q _ => ∃ (e : ExE) (y : V) (dd : Addr), vs = [.ref p.1] ∧ e ∈ exTab ∧ HeldS K p H e y dd ∧ exOth.contains e.1 = true ∧ ∀ l H', Same H H' → H' l = some (.lst [y]) → Q (.ref l) H'
end TP



namespace TP
open PySem PySem.Spec PyProof.Rows L2 LamX
def top (i : Nat) : Stmt := PySem.Challenge.pw_tallyplans_k43_merge_plans.main.body.getD i (.Pass ⟨0, 0, 0, 0⟩)
abbrev s_is_whole : Stmt := top 8
abbrev s_is_from : Stmt := top 9
abbrev s_is_name : Stmt := top 10
abbrev s_is_run : Stmt := top 11
abbrev s_table_of : Stmt := top 13
abbrev s_counts_of_table : Stmt := top 14
abbrev s_first_no_order : Stmt := top 16
abbrev s_is_order : Stmt := top 17
abbrev s_first_no_plan : Stmt := top 19
abbrev s_is_plan : Stmt := top 20
abbrev s_check_plan : Stmt := top 21
abbrev s_plan_arrivals : Stmt := top 22
abbrev s__law_cell : Stmt := top 24
abbrev s__law_pool : Stmt := top 25
abbrev s__law_draw : Stmt := top 26
abbrev s__law_words : Stmt := top 27
abbrev s__law_often : Stmt := top 28
abbrev s__law_path : Stmt := top 29
abbrev s__law_flat : Stmt := top 30
abbrev s__law_is_run : Stmt := top 31
abbrev s__law_is_path : Stmt := top 32
abbrev s__law_is_scheme : Stmt := top 33
abbrev s__law_scheme : Stmt := top 34
abbrev s__law_gathered : Stmt := top 35
abbrev s__law_all_runs : Stmt := top 36
abbrev s__law_bent : Stmt := top 37
abbrev s__law_one_right : Stmt := top 38
abbrev s__law_large_right : Stmt := top 39
abbrev s__law_right : Stmt := top 40
abbrev s_law : Stmt := top 41
def d_is_whole : He.DefD := ⟨("is_whole", none), "is_whole", "is_whole", defArgs s_is_whole, defBody s_is_whole, defScope s_is_whole, [], []⟩
def d_is_from : He.DefD := ⟨("is_from", none), "is_from", "is_from", defArgs s_is_from, defBody s_is_from, defScope s_is_from, [], []⟩
def d_is_name : He.DefD := ⟨("is_name", none), "is_name", "is_name", defArgs s_is_name, defBody s_is_name, defScope s_is_name, [], []⟩
def d_is_run : He.DefD := ⟨("is_run", none), "is_run", "is_run", defArgs s_is_run, defBody s_is_run, defScope s_is_run, [], []⟩
def d_table_of : He.DefD := ⟨("table_of", none), "table_of", "table_of", defArgs s_table_of, defBody s_table_of, defScope s_table_of, [], []⟩
def d_counts_of_table : He.DefD := ⟨("counts_of_table", none), "counts_of_table", "counts_of_table", defArgs s_counts_of_table, defBody s_counts_of_table, defScope s_counts_of_table, [], []⟩
def d_first_no_order : He.DefD := ⟨("first_no_order", none), "first_no_order", "first_no_order", defArgs s_first_no_order, defBody s_first_no_order, defScope s_first_no_order, [], []⟩
def d_is_order : He.DefD := ⟨("is_order", none), "is_order", "is_order", defArgs s_is_order, defBody s_is_order, defScope s_is_order, [], []⟩
def d_first_no_plan : He.DefD := ⟨("first_no_plan", none), "first_no_plan", "first_no_plan", defArgs s_first_no_plan, defBody s_first_no_plan, defScope s_first_no_plan, [], []⟩
def d_is_plan : He.DefD := ⟨("is_plan", none), "is_plan", "is_plan", defArgs s_is_plan, defBody s_is_plan, defScope s_is_plan, [], []⟩
def d_check_plan : He.DefD := ⟨("check_plan", none), "check_plan", "check_plan", defArgs s_check_plan, defBody s_check_plan, defScope s_check_plan, [], []⟩
def d_plan_arrivals : He.DefD := ⟨("plan_arrivals", none), "plan_arrivals", "plan_arrivals", defArgs s_plan_arrivals, defBody s_plan_arrivals, defScope s_plan_arrivals, [], []⟩
def d__law_cell : He.DefD := ⟨("_law_cell", none), "_law_cell", "_law_cell", defArgs s__law_cell, defBody s__law_cell, defScope s__law_cell, [], []⟩
def d__law_pool : He.DefD := ⟨("_law_pool", none), "_law_pool", "_law_pool", defArgs s__law_pool, defBody s__law_pool, defScope s__law_pool, [], []⟩
def d__law_draw : He.DefD := ⟨("_law_draw", none), "_law_draw", "_law_draw", defArgs s__law_draw, defBody s__law_draw, defScope s__law_draw, [], []⟩
def d__law_words : He.DefD := ⟨("_law_words", none), "_law_words", "_law_words", defArgs s__law_words, defBody s__law_words, defScope s__law_words, [], []⟩
def d__law_often : He.DefD := ⟨("_law_often", none), "_law_often", "_law_often", defArgs s__law_often, defBody s__law_often, defScope s__law_often, [], []⟩
def d__law_path : He.DefD := ⟨("_law_path", none), "_law_path", "_law_path", defArgs s__law_path, defBody s__law_path, defScope s__law_path, [], []⟩
def d__law_flat : He.DefD := ⟨("_law_flat", none), "_law_flat", "_law_flat", defArgs s__law_flat, defBody s__law_flat, defScope s__law_flat, [], []⟩
def d__law_is_run : He.DefD := ⟨("_law_is_run", none), "_law_is_run", "_law_is_run", defArgs s__law_is_run, defBody s__law_is_run, defScope s__law_is_run, [], []⟩
def d__law_is_path : He.DefD := ⟨("_law_is_path", none), "_law_is_path", "_law_is_path", defArgs s__law_is_path, defBody s__law_is_path, defScope s__law_is_path, [], []⟩
def d__law_is_scheme : He.DefD := ⟨("_law_is_scheme", none), "_law_is_scheme", "_law_is_scheme", defArgs s__law_is_scheme, defBody s__law_is_scheme, defScope s__law_is_scheme, [], []⟩
def d__law_scheme : He.DefD := ⟨("_law_scheme", none), "_law_scheme", "_law_scheme", defArgs s__law_scheme, defBody s__law_scheme, defScope s__law_scheme, [], []⟩
def d__law_gathered : He.DefD := ⟨("_law_gathered", none), "_law_gathered", "_law_gathered", defArgs s__law_gathered, defBody s__law_gathered, defScope s__law_gathered, [], []⟩
def d__law_all_runs : He.DefD := ⟨("_law_all_runs", none), "_law_all_runs", "_law_all_runs", defArgs s__law_all_runs, defBody s__law_all_runs, defScope s__law_all_runs, [], []⟩
def d__law_bent : He.DefD := ⟨("_law_bent", none), "_law_bent", "_law_bent", defArgs s__law_bent, defBody s__law_bent, defScope s__law_bent, [], []⟩
def d__law_one_right : He.DefD := ⟨("_law_one_right", none), "_law_one_right", "_law_one_right", defArgs s__law_one_right, defBody s__law_one_right, defScope s__law_one_right, [], []⟩
def d__law_large_right : He.DefD := ⟨("_law_large_right", none), "_law_large_right", "_law_large_right", defArgs s__law_large_right, defBody s__law_large_right, defScope s__law_large_right, [], []⟩
def d__law_right : He.DefD := ⟨("_law_right", none), "_law_right", "_law_right", defArgs s__law_right, defBody s__law_right, defScope s__law_right, [], []⟩
def d_law : He.DefD := ⟨("law", none), "law", "law", defArgs s_law, defBody s_law, defScope s_law, [], []⟩
def fn : List He.DefD := [d_is_whole, d_is_from, d_is_name, d_is_run, d_table_of, d_counts_of_table, d_first_no_order, d_is_order, d_first_no_plan, d_is_plan, d_check_plan, d_plan_arrivals, d__law_cell, d__law_pool, d__law_draw, d__law_words, d__law_often, d__law_path, d__law_flat, d__law_is_run, d__law_is_path, d__law_is_scheme, d__law_scheme, d__law_gathered, d__law_all_runs, d__law_bent, d__law_one_right, d__law_large_right, d__law_right, d_law]
def fa : List He.Fa := [.glo "is_whole", .glo "is_from", .glo "is_name", .glo "is_run", .glo "table_of", .glo "counts_of_table", .glo "first_no_order", .glo "is_order", .glo "first_no_plan", .glo "is_plan", .glo "check_plan", .glo "plan_arrivals", .glo "_law_cell", .glo "_law_pool", .glo "_law_draw", .glo "_law_words", .glo "_law_often", .glo "_law_path", .glo "_law_flat", .glo "_law_is_run", .glo "_law_is_path", .glo "_law_is_scheme", .glo "_law_scheme", .glo "_law_gathered", .glo "_law_all_runs", .glo "_law_bent", .glo "_law_one_right", .glo "_law_large_right", .glo "_law_right", .glo "law", .free "len", .free "isinstance", .free "range", .free "enumerate", .free "zip", .free "reversed", .free "int", .free "str", .free "bool", .free "tuple", .free "list", .free "dict", .free "bytes", .free "set", .free "sum", .free "all", .free "any", .free "abs", .free "min", .free "max", .free "sorted", .free "repr", .free "divmod", .free "type", .free "map", .free "iter", .free "next", .str "LETTERS" "abcdefghijklmnopqrstuvwxyz", .int "MAX_RUNS" 1000, .int "MAX_NAMES" 12, .int "MAX_ORDERS" 400]
abbrev R : PySem.W.OpenRow := PySem.W.OpenLaw.row PySem.Challenge.rw_tallyplans_k43_merge_plans
abbrev hk : PySem.W.Hook := He.hookD 4 fa fn
def ob (s : PySem.W.SharedT) : He.AlD := He.obsDG 4 fa fn (HandSHeadRun.getT s)
theorem ob_eq (s : PySem.W.SharedT) : ob s = hk.obs s.abs := He.obsDG_eq (HandSHeadRun.getT_eq s)
def loose0 : List Str := ["TallyError", "InvalidPlan", "MAX_NAMES", "MAX_RUNS", "MAX_ORDERS", "LETTERS", "is_whole", "is_from", "is_name", "is_run", "table_of", "counts_of_table", "first_no_order", "is_order", "first_no_plan", "is_plan", "check_plan", "plan_arrivals", "_law_cell", "_law_pool", "_law_draw", "_law_words", "_law_often", "_law_path", "_law_flat", "_law_is_run", "_law_is_path", "_law_is_scheme", "_law_scheme", "_law_gathered"]
def loose1 : List Str := ["_law_all_runs", "_law_bent", "_law_one_right", "_law_large_right", "_law_right"]
def loose : List Str := loose0 ++ loose1
theorem run (w : World) : HandSHeadRun.RunEq R (PySem.W.view R.prog [41]) hk ob 6000 loose w := by
  intro os
  kernel_rfl
end TP
namespace TP
open PySem PySem.Spec PyProof.Rows L2
section
variable {P : Program} {w : World} {K : PySem.W.Frag} {mg : Str → Option Value} {base : Heap} {CX : CXT} {j k : Nat} {f : Addr} {fd : FuncData} {ps : List Str} {sp sp' : Sp}
theorem FnG.mono (F : FnG P w K mg base CX j f fd ps sp) (h : j ≤ k) : FnG P w K mg base CX k f fd ps sp :=
  ⟨F.len, fun A outer s H args us vs Q E hr hg => F.run A outer s H args us vs Q E (hr.mono h) hg⟩
end
section
variable {P : Program} {w : World} {K : PySem.W.Frag} {mg : Str → Option Value} {base : Heap} {CX : CXT} {k j : Nat} {x : Str} {st : Stmt} {N ps : List Str} {sp sp' : Sp}
end
section
variable {X : Cx} {CX : CXT} {k : Nat} {f : Addr} {fd : FuncData} {ps ks : List Str} {sp : Sp} {E : XK} {x : Str} {st : Stmt} {p pos : Pos} {e : Expr} {es : List Expr} {kws : List Keyword} {t tk : TA}
theorem runG {pins : List (Addr × Obj)} {σ : L2.St} {H : Hp} {s : Shared} {Q : VK} {us : List Value} {args : Args} {vs : List V} (F : FnG X.prog X.w X.K X.mg X.base CX k f fd ps sp) (hr : Room k X.A) (hg : X.A.guards = some []) (hx : Passes CX X E)
    (I : Inv X pins σ H s) (r : Vals vs us) (hb : BindsTo s fd args (ps.zip us)) (h : sp vs H Q E) : wpAny (model X.prog X.w) X.A (call (.ref f) args.pos args.kw) (EP X pins σ Q) X.xe s := by
  refine wpAny_call (codeAny_mono (F.run X.A X.stack s H args us vs Q E hr hg I.env0 hb r h) fun z s' hq => ?_)
  cases z with
  | error e => exact hx pins σ H s e s' I hq
  | ok fl =>
    cases fl with
    | ret u => exact I.after hq
    | next => exact hq.elim
    | brk => exact hq.elim
    | cont => exact hq.elim
theorem FunD.noDef {K : PySem.W.Frag} {q : Str} {params : Arguments} {body : List Stmt} {scope : Scope} {kvs : List (Str × V)} (F : FunD K x q params body scope [] kvs f fd) :
    ∃ (kV doc pm : Value) (an : Option Addr) (cdv ct : Value), fd = PySem.W.fnOf x q params body scope .none kV doc pm an cdv ct := by
  obtain ⟨oc, od, dV, kV, doc, pm, an, cdv, ct, osl, rfl, lk, hcd, hd, _⟩ := F.ex
  rcases hd with ⟨_, rfl⟩ | ⟨q, _⟩
  · exact ⟨kV, doc, pm, an, cdv, ct, rfl⟩
  · exact absurd rfl q
theorem pe_fn (F : Has X.prog X.w X.K X.mg X.base CX k x st ps sp) (hb : PosB x st ps) (hr : Room k X.A) (hg : X.A.guards = some []) (hgl : Gl X x) (hx : Passes CX X E)
    (ha : PA X (e :: es) t) (hdb : (x == ("__debug__" : Str)) = false := by decide) (he : starEach (e :: es) X.env = (false, eval e X.env) :: starEach es X.env := by rfl)
    (hpl : (backTo pos (starEach es X.env)).any (·.1) = false := by rfl) : PE X (.Call (.Name x p) (e :: es) [] pos) (tCall sp [] E t) := by
  obtain ⟨fd, FD, G⟩ := F.ex
  refine ⟨fun pins s σ H Q I h => ?_⟩
  refine wpAny_Call_Name_kw (ld_glob I hgl F.glo ?_ hdb)
  refine PySem.W.callWith_K (h₀ := X.base) I.ok.mod.kin FD.kp (thn (ha.run pos pins s σ H _ I h) fun us s1 ⟨vs, H1, I1, r, q⟩ => ⟨I1.kIn, ?_⟩) he hpl
  have q2 : sp vs H1 Q E := by rw [← List.append_nil vs]; exact q
  obtain ⟨kV, doc, pm, an, cdv, ct, rfl⟩ := FunD.noDef FD
  exact runG (args := ⟨us, []⟩) G hr hg hx I1 r (.of_eq (hb kV doc pm an cdv ct us (by rw [← r.length]; exact G.len _ _ _ _ q2))) q2
theorem pe_fn0 (F : Has X.prog X.w X.K X.mg X.base CX k x st ps sp) (hb : PosB x st ps) (hr : Room k X.A) (hg : X.A.guards = some []) (hgl : Gl X x) (hx : Passes CX X E)
    (hdb : (x == ("__debug__" : Str)) = false := by decide) : PE X (.Call (.Name x p) [] [] pos) (tCall sp [] E tNil) := by
  obtain ⟨fd, FD, G⟩ := F.ex
  refine ⟨fun pins s σ H Q I h => ?_⟩
  refine wpAny_Call_Name_kw (ld_glob I hgl F.glo ?_ hdb)
  have q2 : sp [] H Q E := h
  obtain ⟨kV, doc, pm, an, cdv, ct, rfl⟩ := FunD.noDef FD
  exact PySem.W.callWith_K0 I.kIn FD.kp (runG (args := ⟨[], []⟩) G hr hg hx I .nil (.of_eq (hb kV doc pm an cdv ct [] (G.len _ _ _ _ q2))) q2)
/-- f(k = v, ..) -/
theorem pe_fnK0 {g : {α : Type} → List α → List α → List α} (F : Has X.prog X.w X.K X.mg X.base CX k x st ps sp) (hb : KwB x st ps 0 ks g) (hgr : ∀ {vs zs : List V} {us ws : List Value}, Vals vs us → Vals zs ws → vs.length = 0 → zs.length = ks.length → Vals (g vs zs) (g us ws))
    (hr : Room k X.A) (hg : X.A.guards = some []) (hgl : Gl X x) (hx : Passes CX X E)
    (hkw : PK X kws tk) (hall : (backToKw pos (keywordEach kws X.env)).all (·.1.isSome) = true := by rfl) (hks : (backToKw pos (keywordEach kws X.env)).filterMap (·.1) = ks := by rfl)
    (hdb : (x == ("__debug__" : Str)) = false := by decide)
    (hpl : ((backTo pos (starEach [] X.env)).any (·.1) || (backToKw pos (keywordEach kws X.env)).any (·.1.isNone)) = false := by rfl) :
    PE X (.Call (.Name x p) [] kws pos) (tCallW sp 0 ks.length g E tNil tk) := by
  obtain ⟨fd, FD, G⟩ := F.ex
  refine ⟨fun pins s σ H Q I h => ?_⟩
  refine wpAny_Call_Name_kw (ld_glob I hgl F.glo ?_ hdb)
  refine PySem.W.callWith_KW0 (h₀ := X.base) I.ok.mod.kin FD.kp hall (thn (hkw.run pos pins s σ H _ I h) fun ws s2 ⟨zs, H2, I2, rz, l1, l2, q2⟩ => ⟨I2.kIn, ?_⟩) hpl
  rw [hks]
  obtain ⟨kV, doc, pm, an, cdv, ct, rfl⟩ := FunD.noDef FD
  exact runG (args := ⟨[], ks.zip ws⟩) (us := g [] ws) (vs := g [] zs) G hr hg hx I2 (hgr .nil rz rfl l2) (.of_eq (hb kV doc pm an cdv ct [] ws rfl (by rw [← rz.length]; exact l2))) q2
end
section
variable {P : Program} {w : World} {K : PySem.W.Frag} {mg mb : Str → Option Value} {k : Nat} {fa a : Addr} {fd : FuncData} {x : Str} {sp : Sp} {s₁ : Shared} {vs : List Value} {ns : List Int}
/-- the law's call from an abstract heap H that holds the script at most -/
theorem law_core (KX : K.In s₁.heap) (hns : s₁.heap.Ns mainGlobals mg) (hb : s₁.heap.Ns builtinsNs mb) (hbb : ∀ x : Str, x ≠ "__name__" → mb x = bootBuiltins x) (hlim : s₁.heap.NoLimit) (hg : s₁.gens = #[])
    (ha : s₁.heap.get? a = some { cls := .type "list", data := .seq vs.toArray }) (hr : Room k callerA)
    (F : ∀ base : Heap, K.In base → base.Ns mainGlobals mg → FnG P w K mg base CX0 k fa fd [x] sp) (hbind : ∀ (s : Shared) (u : Value), BindsTo s fd ⟨[u], []⟩ [(x, u)])
    {H : Hp} (hO : Only H) (hsp : sp [.ref a] H (fun v _ => v = .bl true) fun _ _ _ => False) (hok : HOk P w H s₁.heap) (hA : ∀ b, H b ≠ none → b = a) (hK : H a ≠ none → K.lookup a = none) :
    codeAny (model P w) callerA (.call (.ref fa) ⟨[.ref a], []⟩) (fun r s' => r = .ok (.ret (.bool true)) ∧ OldK s₁.heap s'.heap ∧ s'.os = s₁.os ∧ AllBare s'.gens) s₁ := by
  have dict_out : ∀ {b : Addr} {o : Obj} {es : Array DictEntry} {ep : Nat}, s₁.heap.get? b = some o → o.data = .dict es ep → H b = none := fun {b o es ep} e d => by
    refine Classical.byContradiction fun z => ?_
    have eb := hA b z
    rw [eb, ha] at e
    cases e
    cases d
  have ns_in : ∀ {b : Addr} {m : Str → Option Value}, s₁.heap.Ns b m → (hidT s₁.heap H).Ns b m := fun {b m} ⟨o, es, ep, e, d, r⟩ => ⟨o, es, ep, hidT_get e (dict_out e d), d, r⟩
  have k_in : K.In (hidT s₁.heap H) := fun b o e => hidT_get (KX b o e) (Classical.byContradiction fun z => by
    have eb := hA b z
    rw [eb] at e z
    rw [hK z] at e
    cases e)
  have md : Mod K mg (hidT s₁.heap H) := ⟨k_in, ns_in hns, ⟨mb, ns_in hb, hbb⟩, let ⟨mc, h1, h2⟩ := hlim; ⟨mc, ns_in h1, h2⟩⟩
  have no : ∀ b : Addr, b ∈ frs ([] : List Env) → False := fun b q => by
    have q2 : b ∈ ([] : List Addr) := q
    cases q2
  have e0 : Env0 P w K mg (hidT s₁.heap H) callerA [] s₁ H := ⟨rfl, md, fun b o e => of_hidT e, Nat.le_of_eq (hidT_size _ _), trivial, fun b q => (no b q).elim, hok, .of_eq hg⟩
  refine codeAny_mono ((F _ k_in (ns_in hns)).run callerA [] s₁ H ⟨[.ref a], []⟩ [.ref a] [.ref a] _ _ hr rfl e0 (hbind s₁ (.ref a)) (.cons rfl .nil) hsp) fun r s' h => ?_
  cases r with
  | error e => exact h.elim
  | ok fl =>
    cases fl with
    | next => exact h.elim
    | brk => exact h.elim
    | cont => exact h.elim
    | ret u =>
      obtain ⟨v, H', os, bare, un, hok', r', q⟩ := h
      have q' : v = .bl true := q
      subst q'
      have eu : u = Value.bool true := r'
      subst eu
      refine ⟨rfl, OldK.of_keep fun b o e => ?_, os, bare⟩
      rcases hO b with z | ⟨ob, xs, z⟩
      · exact un.keep b o e z (fun q => no b q) (by simp)
      · have e1 : s₁.heap.get? b = some ob := (hok b _ z).1
        have e2 : s'.heap.get? b = some ob := (hok' b _ (un.frzs b ob _ z)).1
        rw [e] at e1
        rw [e2, ← e1]
theorem law_callG (KX : K.In s₁.heap) (hns : s₁.heap.Ns mainGlobals mg) (hb : s₁.heap.Ns builtinsNs mb) (hbb : ∀ x : Str, x ≠ "__name__" → mb x = bootBuiltins x) (hlim : s₁.heap.NoLimit) (hg : s₁.gens = #[])
    (ha : s₁.heap.get? a = some { cls := .type "list", data := .seq vs.toArray }) (hi : IntsAre vs ns) (hl : ns.length ≤ sizeLine) (hr : Room k callerA)
    (F : ∀ base : Heap, K.In base → base.Ns mainGlobals mg → FnG P w K mg base CX0 k fa fd [x] sp) (hbind : ∀ (s : Shared) (u : Value), BindsTo s fd ⟨[u], []⟩ [(x, u)])
    (hsp : ∀ H : Hp, SqL K H a (ns.map V.int) → sp [.ref a] H (fun v _ => v = .bl true) fun _ _ _ => False) :
    codeAny (model P w) callerA (.call (.ref fa) ⟨[.ref a], []⟩) (fun r s' => r = .ok (.ret (.bool true)) ∧ OldK s₁.heap s'.heap ∧ s'.os = s₁.os ∧ AllBare s'.gens) s₁ := by
  have rv := vals_ints hi
  cases hk : K.lookup a with
  | some o =>
    have e := KX a o hk
    rw [ha] at e
    cases e
    exact law_core (H := fun _ => none) KX hns hb hbb hlim hg ha hr F hbind (fun _ => .inl rfl) (hsp _ (.inr ⟨_, vs.toArray, _, hk, rfl, rfl, rfl, by rw [List.size_toArray, hi.length]; exact hl, by simpa using rv⟩))
      (fun b u z => by cases z) (fun b z => absurd rfl z) fun z => absurd rfl z
  | none =>
    let H : Hp := fun b => if b = a then some (.frz { cls := .type "list", data := .seq vs.toArray } (.lst (ns.map V.int))) else none
    have at_a : H a = some (.frz { cls := .type "list", data := .seq vs.toArray } (.lst (ns.map V.int))) := if_pos rfl
    have off : ∀ b, b ≠ a → H b = none := fun b z => if_neg z
    refine law_core (H := H) KX hns hb hbb hlim hg ha hr F hbind (fun b => ?_) (hsp _ (.inl (.inr ⟨_, at_a⟩))) (fun b u z => ?_) (fun b z => ?_) fun _ => hk
    · by_cases q : b = a
      · subst q; exact .inr ⟨_, _, at_a⟩
      · exact .inl (off b q)
    · by_cases q : b = a
      · subst q
        rw [at_a] at z
        cases z
        exact ⟨ha, by rw [List.length_map]; exact hl, vs, _, rv, ha⟩
      · rw [off b q] at z; cases z
    · exact Classical.byContradiction fun q => z (off b q)
end
theorem walkG {l : PySem.W.OpenLaw} {n k : Nat} {q : Program} {loose : List Str} {XP : (Str → Option Value) → Heap → Prop} {YP : World → Heap → Prop} {d : DefRec} {x : Str}
    (hn : l.most = some n) (hn2 : n ≤ sizeLine) (hdf : d.params.defaults = []) (hr : Room k callerA)
    (F : ∀ (w : World) (mg : Str → Option Value) (fa : Addr) (h : Heap), YP w h → h.Ns mainGlobals mg → mg d.name = some (.ref fa) →
      ∃ (K : PySem.W.Frag) (fd : FuncData) (sp : Sp), K.In h ∧ (∀ (s : Shared) (u : Value), BindsTo s fd ⟨[u], []⟩ [(x, u)]) ∧
        (∀ (H : Hp) (a : Addr) (ns : List Int), ns.length ≤ n → SqL K H a (ns.map V.int) → sp [.ref a] H (fun v _ => v = .bl true) fun _ _ _ => False) ∧
        ∀ base : Heap, K.In base → base.Ns mainGlobals mg → FnG l.prog w K mg base CX0 k fa fd [x] sp) :
    PySem.W.WalkO q loose XP YP l.row.toRowW d [] (fun f vs => PySem.call f vs) := by
  refine Att.attach_call hn hdf fun w s₀ s₁ mg mb fa o pm cd doc a vs ns G Y ho hd hcd hmg hobj hints hlen hg => ?_
  obtain ⟨K, fd, sp, KX, hb, hsp, hF⟩ := F w mg fa _ Y G.T.g hmg
  exact law_callG KX G.T.g G.T.b G.T.builtins G.T.nolimit hg hobj hints (Nat.le_trans hlen hn2) hr hF hb fun H hS => hsp H a ns hlen hS
end TP

namespace TP
open PySem PySem.Spec PyProof.Rows L2
section
variable {H H' H1 : Hp} {p q : Addr} {o u : HO}
theorem hp_same (s : Same H H') (h : H p = some o) : H' p = some o := s p o h
theorem same_step (s : Same H H') (hq : H' q = none) : Same H (upd H' q u) := s.trans (same_new hq)
/-- an object that H does not know may change -/
theorem same_mut (s : Same H H') (hq : H q = none) : Same H (upd H' q u) := fun b o h => (upd_ne (ne_of_none h hq)).trans (s b o h)
theorem free_back (s : Same H H') (h : H' p = none) : H p = none := s.free h
theorem szl {n : Nat} (h : n.ble 100000 = true) : n ≤ sizeLine := Nat.le_trans (Nat.le_of_ble_eq_true h) (by rw [sizeLine_eq]; decide)
theorem sz_le {n : Nat} (h : n ≤ 100000) : n ≤ sizeLine := Nat.le_trans h (by rw [sizeLine_eq]; decide)
theorem sz_lt {n : Nat} (h : n < 100000) : n < sizeLine := Nat.lt_of_lt_of_le h (by rw [sizeLine_eq]; decide)
end
theorem SameT.refl (H : Hp) : SameT H H := fun _ _ h _ _ => h
theorem SameT.dct {H : Hp} {l : Addr} {xs : List (Key × V)} {u : HO} (h : H l = some (.dK xs)) : SameT H (upd H l u) := fun a o e _ n => by
  by_cases z : a = l
  · subst z; rw [h] at e; cases e; exact absurd rfl (n xs)
  · exact (upd_ne z).trans e
section
variable {K : PySem.W.Frag} {H : Hp}
theorem dps_len : ∀ {vs : List V} {ds : List PyData}, DpAll K H vs ds → vs.length = ds.length
  | _, _, .nil => rfl
  | _, _, .cons _ r => by rw [List.length_cons, List.length_cons, dps_len r]
theorem dps_get : ∀ {vs : List V} {ds : List PyData} {i : Nat} {v : V}, DpAll K H vs ds → vs[i]? = some v → ∃ d, ds[i]? = some d ∧ Dp K H v d
  | _, _, i, _, .nil, e => by simp at e
  | _, _, 0, _, .cons h _, e => by simp at e; subst e; exact ⟨_, rfl, h⟩
  | _, _, i + 1, v, .cons _ r, e => by
    obtain ⟨d, h1, h2⟩ := dps_get (i := i) r (by simpa using e)
    exact ⟨d, by simpa using h1, h2⟩
theorem dps_snoc : ∀ {vs : List V} {ds : List PyData} {v : V} {d : PyData}, DpAll K H vs ds → Dp K H v d → DpAll K H (vs ++ [v]) (ds ++ [d])
  | _, _, _, _, .nil, h => .cons h .nil
  | _, _, _, _, .cons a r, h => .cons a (dps_snoc r h)
theorem dps_app : ∀ {vs ws : List V} {ds es : List PyData}, DpAll K H vs ds → DpAll K H ws es → DpAll K H (vs ++ ws) (ds ++ es)
  | _, _, _, _, .nil, h => h
  | _, _, _, _, .cons a r, h => .cons a (dps_app r h)
theorem dp_int_inv {v : V} {i : Int} (h : Dp K H v (.int i)) : v = .int i := by cases h; rfl
theorem dp_str_inv {v : V} {x : Str} (h : Dp K H v (.str x)) : v = .str x := by cases h; rfl
theorem dp_tup_inv {v : V} {ds : List PyData} (h : Dp K H v (.tuple ds)) : ∃ a xs, v = .ref a ∧ SqT K H a xs ∧ DpAll K H xs ds := by cases h with | tup h r => exact ⟨_, _, rfl, h, r⟩
end
section
variable {σ : L2.St} {H : Hp} {Q : VK} {QB : Bool → Hp → Prop} {QA : List V → Hp → Prop} {QO : Option Int → Hp → Prop} {ta tb tc te : TE} {tt tu : TT} {tr : TA} {D : Ends} {s t u : TS} {g : TG} {gs : TGs} {r r' : R2} {v x y : V} {E : XK} {sp : Sp}
theorem w_var {i : Nat} (e : σ[i]? = some (some v)) (h : Q v H) : tVar i σ H Q := ⟨v, e, h⟩
theorem w_c (h : Q v H) : tC v σ H Q := h
theorem w_op (h : ta σ H fun x H1 => tb σ H1 fun y H2 => r x y H2 Q) : tOp r ta tb σ H Q := h
theorem w_un {r : V → Hp → VK → Prop} (h : ta σ H fun x H1 => r x H1 Q) : tUn r ta σ H Q := h
theorem w_U {g : Int → V} {i : Int} (h : Q (g i) H) : rU g (.int i) H Q := ⟨i, rfl, h⟩
theorem w_I0 {g : Int → Int → V} {i j : Int} (h : Q (g i j) H) : rI0 g (.int i) (.int j) H Q := ⟨i, j, rfl, rfl, h⟩
theorem w_I {C : Int → Int → Prop} {g : Int → Int → V} {i j : Int} (c : C i j) (h : Q (g i j) H) : rI C g (.int i) (.int j) H Q := ⟨i, j, rfl, rfl, c, h⟩
theorem w_eqI {i j : Int} (h : Q (.bl (decide (i = j))) H) : rEq (.int i) (.int j) H Q := by
  refine ⟨rfl, ?_⟩
  have e : decide (V.int i = V.int j) = decide (i = j) := by
    by_cases z : i = j
    · subst z; simp
    · rw [decide_eq_false z, decide_eq_false fun q => z (V.int.inj q)]
  rw [e]; exact h
theorem w_neI {i j : Int} (h : Q (.bl (!decide (i = j))) H) : rNe (.int i) (.int j) H Q := by
  refine ⟨rfl, ?_⟩
  have e : decide (V.int i = V.int j) = decide (i = j) := by
    by_cases z : i = j
    · subst z; simp
    · rw [decide_eq_false z, decide_eq_false fun q => z (V.int.inj q)]
  rw [e]; exact h
theorem w_eqS {i j : Str} (h : Q (.bl (decide (i = j))) H) : rEq (.str i) (.str j) H Q := by
  refine ⟨rfl, ?_⟩
  have e : decide (V.str i = V.str j) = decide (i = j) := by
    by_cases z : i = j
    · subst z; simp
    · rw [decide_eq_false z, decide_eq_false fun q => z (V.str.inj q)]
  rw [e]; exact h
theorem w_neS {i j : Str} (h : Q (.bl (!decide (i = j))) H) : rNe (.str i) (.str j) H Q := by
  refine ⟨rfl, ?_⟩
  have e : decide (V.str i = V.str j) = decide (i = j) := by
    by_cases z : i = j
    · subst z; simp
    · rw [decide_eq_false z, decide_eq_false fun q => z (V.str.inj q)]
  rw [e]; exact h
theorem w_isB {a b : Bool} (h : Q (.bl (decide (a = b))) H) : rIsB (.bl a) (.bl b) H Q := ⟨a, b, rfl, rfl, h⟩
theorem w_notB {a b : Bool} (h : Q (.bl (!decide (a = b))) H) : rNotB (.bl a) (.bl b) H Q := ⟨a, b, rfl, rfl, h⟩
theorem w_call (h : tr σ H fun vs H1 => sp vs H1 Q E) : tCall sp [] E tr σ H Q := by
  have e : (fun (vs : List V) (H1 : Hp) => sp (vs ++ []) H1 Q E) = fun vs H1 => sp vs H1 Q E := by funext vs H1; rw [List.append_nil]
  show tr σ H fun vs H1 => sp (vs ++ []) H1 Q E
  rw [e]; exact h
theorem w_CB {r : List V → Hp → VK → Prop} (h : tr σ H fun vs H1 => r vs H1 Q) : tCB r tr σ H Q := h
theorem w_nil (h : QA [] H) : tNil σ H QA := h
theorem w_cons (h : ta σ H fun x H1 => tr σ H1 fun xs H2 => QA (x :: xs) H2) : tCons ta tr σ H QA := h
theorem w_tup (h : tr σ H fun xs H1 => AllocT xs H1 Q) : tTup tr σ H Q := h
theorem w_lst (h : tr σ H fun xs H1 => AllocL xs H1 Q) : tLst tr σ H Q := h
theorem w_allocT {xs : List V} (l : xs.length.ble 100000 = true) (h : ∀ p, H p = none → Q (.ref p) (upd H p (.tup xs))) : AllocT xs H Q := ⟨szl l, h⟩
theorem w_allocL {xs : List V} (l : xs.length.ble 100000 = true) (h : ∀ p, H p = none → Q (.ref p) (upd H p (.lst xs))) : AllocL xs H Q := ⟨szl l, h⟩
theorem w_bl {c : Bool} {k : Bool → Prop} (h : k c) : BlC H (.bl c) k := ⟨c, rfl, h⟩
theorem w_andV (h : ta σ H fun x H1 => BlC H1 x fun c => if c = true then tb σ H1 Q else Q (.bl false) H1) : tAndV ta tb σ H Q := h
theorem w_orV (h : ta σ H fun x H1 => BlC H1 x fun c => if c = true then Q (.bl true) H1 else tb σ H1 Q) : tOrV ta tb σ H Q := h
theorem w_notV (h : ta σ H fun x H1 => BlC H1 x fun c => Q (.bl (!c)) H1) : tNotV ta σ H Q := h
theorem w_if (h : tt σ H fun c H1 => if c = true then ta σ H1 Q else tb σ H1 Q) : tIf tt ta tb σ H Q := h
theorem w_test (h : te σ H fun x H1 => BlC H1 x fun c => QB c H1) : tTest te σ H QB := h
theorem w_B (h : te σ H fun x H1 => BlC H1 x fun c => QB c H1) : tB te σ H QB := h
theorem w_and (h : tt σ H fun c H1 => if c = true then tu σ H1 QB else QB false H1) : tAnd tt tu σ H QB := h
theorem w_or (h : tt σ H fun c H1 => if c = true then QB true H1 else tu σ H1 QB) : tOr tt tu σ H QB := h
theorem w_not (h : tt σ H fun c H1 => QB (!c) H1) : tNot tt σ H QB := h
theorem w_chain (h : ta σ H fun x H1 => tb σ H1 fun y H2 => r x y H2 fun z H3 => BlC H3 z fun k => if k = true then tc σ H3 fun w' H4 => r' y w' H4 Q else Q (.bl false) H3) : tChain r r' ta tb tc σ H Q := h
theorem w_seq (h : t { D with nx := u D } σ H) : tSeq t u D σ H := h
theorem w_next (h : D.nx σ H) : tNext D σ H := h
theorem w_asg (h : te σ H fun x H1 => g x σ H1 D.nx) : tAsg te g D σ H := h
theorem w_gname {i : Nat} {QS : L2.St → Hp → Prop} (h : QS (σ.set i (some v)) H) : gName i v σ H QS := h
theorem w_gtup {K : PySem.W.Frag} {n : Nat} {a : Addr} {xs : List V} {QS : L2.St → Hp → Prop} (hs : SqT K H a xs) (hn : xs.length = n) (h : gs xs σ H QS) : gTup K n gs (.ref a) σ H QS := ⟨a, xs, rfl, hs, hn, h⟩
theorem w_gcons {xs : List V} {QS : L2.St → Hp → Prop} (h : g x σ H fun σ' H' => gs xs σ' H' QS) : gCons g gs (x :: xs) σ H QS := ⟨x, xs, rfl, h⟩
theorem w_gnil {QS : L2.St → Hp → Prop} (h : QS σ H) : gNil [] σ H QS := ⟨rfl, h⟩
theorem w_gsub {to ti : TE} {ts : TSet} {QS : L2.St → Hp → Prop} (h : to σ H fun o H1 => ti σ H1 fun i H2 => ts o i v H2 fun H3 => QS σ H3) : gSub to ti ts v σ H QS := h
theorem w_setL {p : Addr} {xs : List V} {i : Int} {j : Nat} {QH : Hp → Prop} (hp : H p = some (.lst xs)) (hj : ixN xs.length i = some j) (h : QH (upd H p (.lst (xs.set j v)))) : rSetL (.ref p) (.int i) v H QH := ⟨p, xs, i, j, rfl, rfl, hp, hj, h⟩
theorem w_ret (h : te σ H D.rt) : tRet te D σ H := h
theorem w_retN (h : D.rt .non H) : tRetN D σ H := h
theorem w_ifS {c : TT} (h : c σ H fun b H1 => if b = true then t D σ H1 else u D σ H1) : tIfS c t u D σ H := h
theorem w_drop (h : te σ H fun _ H1 => D.nx σ H1) : tDrop te D σ H := h
theorem w_aug {i : Nat} {ti : TIp} (e : σ[i]? = some (some v)) (h : te σ H fun y H1 => ti v y H1 fun z H2 => D.nx (σ.set i (some z)) H2) : tAug i te ti D σ H := ⟨v, e, h⟩
theorem w_ipI {f : Int → Int → Int} {i j : Int} (h : Q (.int (f i j)) H) : ipI f (.int i) (.int j) H Q := ⟨i, j, rfl, rfl, h⟩
theorem w_break (h : D.bk σ H) : tBreak D σ H := h
theorem w_cont (h : D.ct σ H) : tCont D σ H := h
theorem w_nx {n : L2.St → Hp → Prop} {r : VK} {b c : L2.St → Hp → Prop} (h : n σ H) : Ends.nx ⟨n, r, b, c⟩ σ H := h
theorem w_rt {n : L2.St → Hp → Prop} {r : VK} {b c : L2.St → Hp → Prop} (h : r v H) : Ends.rt ⟨n, r, b, c⟩ v H := h
theorem w_bk {n : L2.St → Hp → Prop} {r : VK} {b c : L2.St → Hp → Prop} (h : b σ H) : Ends.bk ⟨n, r, b, c⟩ σ H := h
theorem w_ct {n : L2.St → Hp → Prop} {r : VK} {b c : L2.St → Hp → Prop} (h : c σ H) : Ends.ct ⟨n, r, b, c⟩ σ H := h
theorem w_iteT {A B : Prop} (h : A) : if true = true then A else B := by rw [if_pos rfl]; exact h
theorem w_iteF {A B : Prop} (h : B) : if false = true then A else B := by rw [if_neg Bool.false_ne_true]; exact h
theorem w_ited {c A B : Prop} [Decidable c] (h1 : c → A) (h2 : ¬ c → B) : if decide c = true then A else B := by
  by_cases h : c
  · rw [if_pos (decide_eq_true h)]; exact h1 h
  · rw [if_neg (by rw [decide_eq_false h]; exact Bool.false_ne_true)]; exact h2 h
theorem w_iteb {b : Bool} {A B : Prop} (h1 : b = true → A) (h2 : b = false → B) : if b = true then A else B := by
  cases b
  · exact w_iteF (h2 rfl)
  · exact w_iteT (h1 rfl)
theorem w_itenb {b : Bool} {A B : Prop} (h1 : b = false → A) (h2 : b = true → B) : if (!b) = true then A else B := by
  cases b
  · exact w_iteT (h1 rfl)
  · exact w_iteF (h2 rfl)
theorem w_nott {A B : Prop} (h : B) : if (!true) = true then A else B := w_iteF h
theorem w_notf {A B : Prop} (h : A) : if (!false) = true then A else B := w_iteT h
theorem w_BM {K : PySem.W.Frag} {T : String} {r : V → List V → Hp → VK → Prop} (h : te σ H fun x H1 => tyV K T x H1 ∧ tr σ H1 fun xs H2 => r x xs H2 Q) : tBM K T r te tr σ H Q := h
theorem w_BM0 {K : PySem.W.Frag} {T : String} {r : V → List V → Hp → VK → Prop} (h : te σ H fun x H1 => tyV K T x H1 ∧ r x [] H1 Q) : tBM0 K T r te σ H Q := h
theorem w_sl {r : V → Option Int → Option Int → Hp → VK → Prop} {tl th : TO} (h : te σ H fun x H1 => tl σ H1 fun l H2 => th σ H2 fun u H3 => r x l u H3 Q) : tSl r te tl th σ H Q := h
theorem w_nopart (h : QO none H) : tNoPart σ H QO := h
theorem w_ixL {K : PySem.W.Frag} {p : Addr} {xs : List V} {i : Int} (hs : SqL K H p xs) (ha : atI xs i = some v) (h : Q v H) : rIxL K (.ref p) (.int i) H Q := ⟨p, xs, i, v, rfl, rfl, hs, ha, h⟩
theorem w_ixT {K : PySem.W.Frag} {p : Addr} {xs : List V} {i : Int} (hs : SqT K H p xs) (ha : atI xs i = some v) (h : Q v H) : rIxT K (.ref p) (.int i) H Q := ⟨p, xs, i, v, rfl, rfl, hs, ha, h⟩
theorem w_dnewK (h : ∀ p, H p = none → Q (.ref p) (upd H p (.dK []))) : tDNewK σ H Q := h
end
end TP

namespace PySem
open Sem (wp)
theorem tp_enum_new {v : Value} {o : Obj} {H : Heap → Prop} (B : Begins v o H) :
    Meets (Builtin.«enumerate.__new__» ⟨[.type "enumerate", v], []⟩) (fun _ R s => H s.heap ∧
      R (.ok (.ret (.ref (s.heap.push o).objs.size))) { s with heap := (s.heap.push o).push { cls := .type "enumerate", data := .fields #[.none, .bool false, .ref s.heap.objs.size, rawInt 0, .none, .none] } }) :=
  .of_wp fun prog w A R s h => by
    obtain ⟨hp, g, d, tk, os⟩ := s; obtain ⟨h1, h⟩ := h
    have hsub := sub_enumerate
    have q1 : ∀ {A' : Around} {E : Value → Shared → Prop} {Q : Value → Shared → Prop}, Q (.ref hp.objs.size) ⟨hp.push o, g, d, tk, os⟩ → wpAny (model prog w) A' (pyIter v) Q E ⟨hp, g, d, tk, os⟩ :=
      fun q => B.iter prog w _ _ ⟨hp, g, d, tk, os⟩ _ h1 q
    wp_walk using q1
    refine wpAny_stack_any fun st => wpAny_pure ?_
    split
    · rename_i c _ _ _ _ _
      cases (c == Value.type "enumerate") <;> (wp_walk using q1; exact ⟨_, rfl, h⟩)
    · wp_walk using q1
      exact ⟨_, rfl, h⟩
theorem tp_enum_begins {prog : Program} {w : World} {A : Around} {E : Value → Shared → Prop} {s : Shared} {v : Value} {o : Obj} {H : Heap → Prop} {Q : Value → Shared → Prop} (B : Begins v o H) (h1 : H s.heap)
    (h : ∀ h', IsEnum h' (s.heap.objs.size + 1) s.heap.objs.size 0 .none → h'.get? s.heap.objs.size = some o → h'.objs.size = s.heap.objs.size + 2 →
      (∀ b o, s.heap.get? b = some o → h'.get? b = some o) → Q (.ref (s.heap.objs.size + 1)) { s with heap := h' }) :
    wpAny (model prog w) A (call (.type "enumerate") [v]) Q E s := by
  refine callType_new F.called_enumerate (by decide) (F.typeCall_enumerate_1 _) (F.newCall_enumerate_1 _) (fun obj => F.args_object_init_2 obj _) F.entry_enumerate_new (tp_enum_new B) ⟨h1, ?_⟩
  have hz : (s.heap.push o).objs.size = s.heap.objs.size + 1 := Heap.size_push ..
  show _ ∧ _
  rw [hz]
  have he : IsEnum ((s.heap.push o).push { cls := .type "enumerate", data := .fields #[.none, .bool false, .ref s.heap.objs.size, rawInt 0, .none, .none] }) (s.heap.objs.size + 1) s.heap.objs.size 0 .none := by
    have q := Heap.get?_push_size (s.heap.push o) (o := { cls := .type "enumerate", data := .fields #[.none, .bool false, .ref s.heap.objs.size, rawInt 0, .none, .none] }) rfl
    rw [hz] at q; exact q
  exact ⟨⟨_, he, rfl⟩, h _ he (Heap.get?_push_of_some _ (Heap.get?_push_size _ B.free)) (by rw [Heap.size_push, hz]) fun b o x => Heap.get?_push_of_some _ (Heap.get?_push_of_some _ x)⟩
end PySem
namespace TP
open PySem PySem.Spec PyProof.Rows L2
theorem istuple_of {h : Heap} {a : Addr} {items : Array Value} (p : IsTup h a items) : h.IsTuple a items := by
  obtain ⟨o, ho, hc, n, hd⟩ := p
  exact ⟨o, ho, hc, n, hd⟩
theorem turn_enumT {P : Program} {w : World} {K : PySem.W.Frag} {elts : List Expr} {kk : Nat} {tpos : Pos} (a e it : Addr) :
    Turn P w K (.Tuple elts kk tpos) (IteT K a) [e, it] e (fun i h => (∃ old, IsEnum h e it ((i : Nat) : Int) old) ∧ h.IsTupleIter it a i ∧ e ≠ it) where
  mem := by simp
  obj := fun i h st b hb => by
    obtain ⟨⟨old, he⟩, ⟨o, ho, hc, hd⟩, _⟩ := st
    rcases (show b = e ∨ b = it by simpa using hb) with z | z
    · rw [z]; exact ⟨_, he, fun v q => nomatch q⟩
    · rw [z]; exact ⟨o, ho, fun v q => by rw [hd] at q; cases q⟩
  keep := fun i h h' st k => let ⟨⟨old, he⟩, hi, hne⟩ := st; ⟨⟨old, k e (by simp) _ he⟩, hi.at fun o q => k it (by simp) o q, hne⟩
  item := by
    intro X hP hw hK hc i pins s σ H E I hf st hg
    subst hP hw hK
    obtain ⟨⟨old, he⟩, hit, hne⟩ := st
    obtain ⟨xs, x, hq, hx⟩ := hg
    obtain ⟨its, rv, p, hz⟩ := I.tuple hq
    obtain ⟨u, hu, ru⟩ := rv.get hx
    have hel : e < s.heap.objs.size := Heap.lt_size he
    have hil : it < s.heap.objs.size := by obtain ⟨_, q, _⟩ := hit; exact Heap.lt_size q
    have hta := istuple_of p
    have nai : a ≠ it := fun z => by
      subst z
      obtain ⟨o1, h1, c1, _⟩ := hit
      obtain ⟨o2, h2, c2, _⟩ := hta
      rw [h1] at h2; cases h2
      rw [c1] at c2
      exact absurd (Value.type.inj c2) (by decide)
    have nae : a ≠ e := fun z => by
      subst z
      obtain ⟨o2, h2, c2, _⟩ := hta
      have h1 : s.heap.get? a = some _ := he
      rw [h1] at h2; cases h2
      exact absurd (Value.type.inj c2) (by decide)
    have D := Draws.tuple (prog := X.prog) (w := X.w) (A := X.A.in1) (by have := I.ok.hd hc; exact this) it a nai its.toArray
    have hlt : i < its.toArray.size := by
      obtain ⟨hh, _⟩ := List.getElem?_eq_some_iff.mp hu
      simpa using hh
    refine wpAny_pyNext_enum_itemD D he ⟨hit, hta⟩ hlt hne (by simp [Ne.symm nae, hne]) fun x' h' tk hx' ho hst' hT hsz hk => ?_
    have ex : x' = u := by
      have : its.toArray[i]? = some x' := hx'
      have q : its[i]? = some x' := by simpa using this
      rw [hu] at q; cases q; rfl
    subst ex
    refine ⟨_, rfl, wpAny_letOwnedTupleGo_enum (s := { s with heap := h', toks := tk + 1 }) ho fun h'' he' sb => ?_⟩
    have hT2 : h''.get? s.heap.objs.size = some { cls := .type "tuple", data := .seq #[.int i tk, x'] } := (sb.2 _ (Nat.ne_of_gt hel)).trans hT
    have new : ObjOk X.prog X.w (upd H s.heap.objs.size (.tup [.int (i : Nat), x])) h'' s.heap.objs.size (.tup [.int (i : Nat), x]) :=
      ⟨by show 2 ≤ sizeLine; decide, [.int i tk, x'], .cons ⟨_, rfl⟩ (.cons ru .nil), ⟨_, hT2, rfl, _, rfl⟩⟩
    have I1 : Inv X pins σ (upd H s.heap.objs.size (.tup [.int (i : Nat), x])) { s with heap := h'', toks := tk + 1 } :=
      I.turnedNew (ch := [e, it]) (fun b ob hb q => (sb.2 b (fun z => hb (by simp [z]))).trans (hk b ob (fun z => hb (by simp [z])) (fun z => hb (by simp [z])) q)) hf (Nat.le_refl _) new
    refine ⟨.ref s.heap.objs.size, _, I1, rfl, ⟨_, x, rfl, I.hok.fresh (Nat.le_refl _), rfl, fun ys hy => by rw [I.tuple_inj hy hq]; exact hx⟩, ⟨⟨x', ?_⟩, hst'.1.at fun o q => (sb.2 it (Ne.symm hne)).trans q, hne⟩, fun b hb => ?_⟩
    · have e1 : ((i + 1 : Nat) : Int) = (i : Int) + 1 := by omega
      rw [e1]; exact he'
    · have hb' : b < s.heap.objs.size := by
        rcases (show b = e ∨ b = it by simpa using hb) with z | z
        · rw [z]; exact hel
        · rw [z]; exact hil
      rw [upd_ne (Nat.ne_of_lt hb')]
      exact (hf b hb).1
  done := by
    intro X hP hw hK hc i pins s σ H E I hf st hg
    subst hP hw hK
    obtain ⟨⟨old, he⟩, hit, hne⟩ := st
    obtain ⟨xs, hq, hx⟩ := hg
    obtain ⟨its, rv, p, hz⟩ := I.tuple hq
    obtain ⟨f0, f1, f2, f3, f4, f5⟩ := hf it (by simp)
    have hl := rv.length
    have hta := istuple_of p
    have nai : a ≠ it := fun z => by
      subst z
      obtain ⟨o1, h1, c1, _⟩ := hit
      obtain ⟨o2, h2, c2, _⟩ := hta
      rw [h1] at h2; cases h2
      rw [c1] at c2
      exact absurd (Value.type.inj c2) (by decide)
    have D := Draws.tuple (prog := X.prog) (w := X.w) (A := X.A.in1) (by have := I.ok.hd hc; exact this) it a nai its.toArray
    have hi : i = its.toArray.size := by simp; omega
    exact wpAny_pyNext_enum_endD D he ⟨by rw [← hi]; exact hit, hta⟩ fun h' eb => ⟨rfl, I.turned (t' := s.toks) (fun b o hb q => eb b o hb q) f0 f1 f3 f4 f5⟩
  self := fun A i s Q E st h => let ⟨⟨_, he⟩, _⟩ := st; wpAny_pyIter_enum he h
theorem pi_enumT {X : Cx} {e : Expr} {ta : TA} {p pos tpos : Pos} {elts : List Expr} {kk : Nat} (hg : Gl X "enumerate") (hm : X.mg "enumerate" = none) (ha : PA X [e] ta) (hs : starEach [e] X.env = [(false, eval e X.env)] := by rfl) :
    PI X (.Tuple elts kk tpos) (.Call (.Name "enumerate" p) [e] [] pos) (iEnumT X.K ta) := by
  refine ⟨fun pins s σ H R I h => ?_⟩
  refine Call_ (ld_blt I hg hm boot_enumerate (PyProof.Rows.callWith_type1 (thn (ha.run pos pins s σ H _ I h) fun us s1 ⟨vs, H1, I1, r1, q1⟩ => ?_) hs rfl))
  obtain ⟨a, xs, ex, hq, q⟩ := q1
  subst ex
  obtain ⟨u, rfl, ru⟩ := vals1 r1
  have eu : u = .ref a := ru
  subst eu
  obtain ⟨its, rv, p', hz⟩ := I1.tuple hq
  refine tp_enum_begins (begins_tuple a its.toArray) (istuple_of p') fun h' he hit hsz hk => wpAny_pyIter_enum he ?_
  have I2 : Inv X pins σ H1 { s1 with heap := h' } := I1.kept (t' := s1.toks) hk
  refine ⟨s1.heap.objs.size + 1, [s1.heap.objs.size + 1, s1.heap.objs.size], _, _, H1, rfl, I2, turn_enumT a (s1.heap.objs.size + 1) s1.heap.objs.size, ⟨⟨.none, he⟩, ⟨_, hit, rfl, rfl⟩, Nat.succ_ne_self _⟩, fun b hb => ?_, q⟩
  have hle : s1.heap.objs.size ≤ b := by
    rcases (show b = s1.heap.objs.size + 1 ∨ b = s1.heap.objs.size by simpa using hb) with z | z
    · rw [z]; exact Nat.le_add_right _ _
    · rw [z]; exact Nat.le_refl _
  exact I1.fpOk hle (I1.hok.fresh hle)
theorem walk_enumT {K : PySem.W.Frag} {a : Addr} {xs : List V} : Walk (IteT K a) xs.length (fun H => SqT K H a xs) (YPair (fun i => some (.int (i : Nat))) (fun i => xs[i]?)) where
  goes := fun i H hi h => by
    obtain ⟨x, hx⟩ : ∃ x, xs[i]? = some x := ⟨_, List.getElem?_eq_getElem hi⟩
    exact ⟨xs, x, h, hx⟩
  stops := fun H h => ⟨xs, h, rfl⟩
  yields := fun i H v H' _ h ⟨T, x, e1, e2, e3, e4⟩ => ⟨T, .int (i : Nat), x, e1, e2, e3, rfl, e4 xs h⟩
end TP

namespace TP
open PySem PySem.Spec PyProof.Rows L2
theorem w_repr {K : PySem.W.Frag} {H : Hp} {Q : VK} {v : V} {d : PyData} (h : Dp K H v d) (s : Shows d) (q : Q (.str d.shown) H) : rRepr K [v] H Q := ⟨v, d, rfl, h, s, q⟩
theorem call_repr {X : Cx} (hg : X.A.guards = some []) (hu : X.A.units + 64 < cLine) : CallR X (.builtin "repr") (rRepr X.K) := by
  intro pins s σ H xs us Q I r h
  obtain ⟨v, d, rfl, hd, hs, q⟩ := h
  obtain ⟨u, rfl, ru⟩ := vals1 r
  have hz : d.shown.length ≤ sizeLine := Nat.le_trans (shown_le d hs.ok) (Nat.le_trans hs.len (by rw [sizeLine_eq]; exact Nat.le_refl _))
  obtain ⟨s1, s2⟩ := showable_of d hs.ok
  have big : ∀ a, u = .ref a → wpAny (model X.prog X.w) X.A (call (.builtin "repr") [u]) (EP X pins σ Q) X.xe s := fun a e => by
    subst e
    obtain ⟨as, rd⟩ := Dp.reads I d v _ hd ru
    refine repr_of_reads' rd s1 (fun z => by rw [s2] at z; cases z) hg (by have := hs.deep; omega) (fun _ _ e => e) (fun h' w' tk hk => ?_) hz
    exact ⟨.str d.shown, H, I.kept (t' := tk) hk, ⟨_, rfl⟩, q⟩
  cases hd with
  | non =>
    have e : u = .none := ru
    subst e
    exact PySem.P.repr_of_none ⟨.str _, H, I.tok _, ⟨_, rfl⟩, q⟩
  | bl b =>
    have e : u = .bool b := ru
    subst e
    refine PySem.P.repr_of_bool ⟨.str _, H, I.tok _, ⟨_, rfl⟩, ?_⟩
    cases b <;> exact q
  | int i =>
    obtain ⟨t, rfl⟩ := ru
    refine PySem.P.repr_of_int ?_ ⟨.str _, H, I.tok _, ⟨_, rfl⟩, q⟩
    simpa [okD] using hs.ok
  | str x =>
    obtain ⟨t, rfl⟩ := ru
    exact PySem.P.repr_of_str ⟨.str _, H, I.tok _, ⟨_, rfl⟩, q⟩ hz
  | lst _ _ => exact big _ ru
  | tup _ _ => exact big _ ru
/-- isinstance of a value of that type -/
theorem w_isi {K : PySem.W.Frag} {H : Hp} {Q : VK} {v : V} {t T : String} {b : Bool} (h : TyX K H v (.type t)) (e : kitB t T = some b) (q : Q (.bl b) H) : rIsi K [v, .ty T] H Q := ⟨v, .ty T, .type t, .type T, b, rfl, .ty T, h, kit_ty e, q⟩
theorem foldl_cat (l : List (Array Nat)) : ∀ acc : Array Nat, l.foldl (· ++ ·) acc = acc ++ ((l.map Array.toList).flatten).toArray := by
  induction l with
  | nil => intro acc; simp
  | cons a r ih => intro acc; rw [List.foldl_cons, ih]; apply Array.ext'; simp
theorem op_mul_str {X : Cx} : OpR X (binaryOp .Mult) (fun x y H Q => ∃ (z : Str) (n : Nat), x = .str z ∧ y = .int (n : Nat) ∧ z.length * n ≤ 100000 ∧ n ≤ 100000 ∧ Q (.str (repS n z)) H) := by
  intro pins s σ H x y v u Q I rx ry h
  obtain ⟨z, n, rfl, rfl, hz, hn, q⟩ := h
  obtain ⟨t, rfl⟩ := rx
  obtain ⟨t', rfl⟩ := ry
  refine PySem.P.mul_str ?_ (fun _ _ => ?_) (fun _ _ => ?_) ?_
  · rw [decide_eq_false (show ¬ ((n : Int) < -(2 ^ 63)) by omega), decide_eq_false (show ¬ ((n : Int) ≥ 2 ^ 63) by omega)]; rfl
  · rename_i h1 h2
    have hn1 : 1 ≤ n := by omega
    have hz2 : (z.length : Int) * (n : Int) ≤ 100000 := by
      have q := Int.ofNat_le.mpr hz
      rw [Int.natCast_mul] at q
      exact q
    have hd : (z.length : Int) ≤ (2 ^ 63 - 1) / (n : Int) := Int.le_ediv_of_mul_le (by omega) (by omega)
    omega
  · unfold Builtin.Str.tooLong
    have e : ((n : Int)).toNat = n := by omega
    rw [e]
    exact decide_eq_false (by have := sz_le hz; omega)
  · have e : ((n : Int)).toNat = n := by omega
    rw [e]
    have fin : ∀ y : Str, y = repS n z → Made.post (Made.str y) (EP X pins σ Q) s := fun y ey => by
      subst ey
      refine ⟨?_, .str _, H, I.tok _, ⟨_, rfl⟩, q⟩
      show (repS n z).length ≤ sizeLine
      have el : (repS n z).length = z.length * n := by
        show ((List.replicate n z.cps.toList).flatten).toArray.size = z.cps.size * n
        simp [Nat.mul_comm]
      rw [el]; exact sz_le hz
    by_cases h1 : (n : Int) < 1
    · rw [if_pos h1]
      refine fin _ ?_
      have : n = 0 := by omega
      subst this
      rfl
    · rw [if_neg h1]
      by_cases h2 : ((n : Int) == 1 || z.length == 0) = true
      · rw [if_pos h2]
        have ez : z = repS n z := by
          rcases Bool.or_eq_true_iff.mp h2 with h3 | h3
          · have : n = 1 := by have := eq_of_beq h3; omega
            subst this
            unfold repS
            simp
          · have h4 : z.cps.size = 0 := by simpa [Str.length] using h3
            have h5 : z.cps = #[] := Array.eq_empty_of_size_eq_zero h4
            unfold repS
            cases z with
            | mk c =>
              have h6 : c = #[] := h5
              subst h6
              simp
        refine ⟨.str z, H, I, ⟨t, rfl⟩, ?_⟩
        rw [ez]
        rw [← ez]
        rw [← ez] at q
        exact q
      · rw [if_neg h2]
        refine fin _ ?_
        unfold repS
        rw [foldl_cat]
        simp
end TP

namespace TP
open PySem PySem.Spec PyProof.Rows L2
section
variable {P : Program} {w : World} {H H0 : Hp} {h h' : Heap} {p : Addr}
theorem objok_retrack {o u : HO} {a : Addr} (hp : H p = some o) (no : ∀ y, o ≠ .own y) (nt : ∀ xs, o ≠ .tup xs) {v : HO} (x : ObjOk P w H h a v) : ObjOk P w (upd H p u) h a v := by
  refine x.stay (fun b w' _ e => e) (fun b e => ?_) fun b xs e => ?_
  · exact (upd_ne (ne_of e hp fun z => no a z.symm)).trans e
  · exact (upd_ne (ne_of e hp fun z => nt xs z.symm)).trans e
theorem hok_retrack {o u : HO} (ok : HOk P w H h) (hp : H p = some o) (no : ∀ y, o ≠ .own y) (nt : ∀ xs, o ≠ .tup xs) (new : ObjOk P w (upd H p u) h p u) : HOk P w (upd H p u) h := fun a v e => by
  by_cases z : a = p
  · subst z; rw [upd_same] at e; cases e; exact new
  · rw [upd_ne z] at e
    exact objok_retrack hp no nt (ok a v e)
theorem pool_of_lst {s d c : Int} (ok : HOk P w H h) (hp : H p = some (.lst [.int s, .int d, .int c])) (hv : PoolV s d c) : HOk P w (upd H p (poolO p)) h := by
  refine hok_retrack ok hp (fun _ => nofun) (fun _ => nofun) ?_
  obtain ⟨_, its, n, r, e⟩ := ok p _ hp
  exact ⟨⟨s, d, c, its, n, r, hv, e⟩, ⟨_, e⟩, fun h1 h2 ⟨s, d, c, its, n, r, hv, e⟩ k => ⟨s, d, c, its, n, r, hv, k _ e⟩⟩
theorem lst_of_pool (ok : HOk P w H h) (hp : H p = some (poolO p)) : ∃ s d c, PoolV s d c ∧ HOk P w (upd H p (.lst [.int s, .int d, .int c])) h := by
  obtain ⟨⟨s, d, c, its, n, r, hv, e⟩, _, _⟩ := ok p _ hp
  exact ⟨s, d, c, hv, hok_retrack ok hp (fun _ => nofun) (fun _ => nofun) ⟨by show 3 ≤ sizeLine; decide, its, n, r, e⟩⟩
theorem un_retrack {fs ex : List Addr} {o u : HO} (un : Un fs ex H0 H h h') (hp : H p = some o) (nt : ∀ xs, o ≠ .tup xs) (nf : ∀ a b, o ≠ .frz a b) (nb : ∀ ps, o ≠ .tbl ps) : Un fs ex H0 (upd H p u) h h' where
  keep := un.keep
  slot := un.slot
  free := fun b ob e n hx => by
    have z := un.free b ob e n hx
    rw [upd_ne (fun q => by rw [q, hp] at z; cases z)]; exact z
  there := un.there
  tups := fun b xs e => by have z := un.tups b xs e; exact (upd_ne (ne_of z hp fun q => nt xs q.symm)).trans z
  frzs := fun b ob v e => by have z := un.frzs b ob v e; exact (upd_ne (ne_of z hp fun q => nf _ _ q.symm)).trans z
  tbls := fun b ps e => by
    obtain ⟨more, z⟩ := un.tbls b ps e
    exact ⟨more, (upd_ne (ne_of z hp fun q => nb _ q.symm)).trans z⟩
/-- the entry's abstract heap told otherwise at p -/
theorem un_retrack0 {fs ex : List Addr} {o u : HO} (un : Un fs ex (upd H0 p u) H h h') (hp : H0 p = some o) (nt : ∀ xs, o ≠ .tup xs) (nf : ∀ a b, o ≠ .frz a b) (nb : ∀ ps, o ≠ .tbl ps) : Un fs ex H0 H h h' := by
  have off : ∀ b, H0 b = none → upd H0 p u b = none := fun b n => by rw [upd_ne (fun q => by rw [q, hp] at n; cases n)]; exact n
  refine ⟨fun b ob e n => un.keep b ob e (off b n), fun b ob e n => un.slot b ob e (off b n), fun b ob e n => un.free b ob e (off b n), un.there, fun b xs e => un.tups b xs ?_, fun b ob v e => un.frzs b ob v ?_, fun b ps e => un.tbls b ps ?_⟩
  · exact (upd_ne (ne_of e hp fun q => nt xs q.symm)).trans e
  · exact (upd_ne (ne_of e hp fun q => nf _ _ q.symm)).trans e
  · exact (upd_ne (ne_of e hp fun q => nb _ q.symm)).trans e
theorem env_retrack {K : PySem.W.Frag} {mg : Str → Option Value} {base : Heap} {A : Around} {outer : List Env} {s : Shared} {o u : HO} (e0 : Env0 P w K mg base A outer s H) (hp : H p = some o) (ok : HOk P w (upd H p u) s.heap) : Env0 P w K mg base A outer s (upd H p u) := by
  have off : ∀ b, H b = none → upd H p u b = none := fun b n => by rw [upd_ne (fun q => by rw [q, hp] at n; cases n)]; exact n
  exact ⟨e0.frames, e0.mod, fun b ob e => ⟨(e0.bs b ob e).1, off b (e0.bs b ob e).2⟩, e0.bsz, e0.funs, fun b hb => off b (e0.frf b hb), ok, e0.bare⟩
end
section
variable {P : Program} {w : World} {K : PySem.W.Frag} {mg : Str → Option Value} {base : Heap} {k : Nat} {f : Addr} {fd : FuncData} {ps : List Str}
theorem draw_wrap (F : FnG P w K mg base CX0 k f fd ps spDrawC) (hl : ps.length = 2) : FnG P w K mg base CX0 k f fd ps spDraw := by
  refine ⟨fun vs H Q E ⟨p, m, e, _⟩ => by rw [e, hl]; rfl, fun A outer s H args us vs Q E hr hg e0 hb r hsp => ?_⟩
  obtain ⟨p, m, rfl, hp, m0, m1, q⟩ := hsp
  obtain ⟨s0, d0, c0, hv, ok1⟩ := lst_of_pool e0.hok hp
  refine codeAny_mono (F.run A outer s (upd H p (.lst [.int s0, .int d0, .int c0])) args us [.ref p, .int m] (fun v H1 => ∃ (r s' d' c' : Int), v = .int r ∧ 0 ≤ r ∧ r < m ∧ SameB p (upd H p (.lst [.int s0, .int d0, .int c0])) H1 ∧ H1 p = some (.lst [.int s', .int d', .int c']) ∧ PoolV s' d' c') E hr hg (env_retrack e0 hp ok1) hb r
    ⟨p, s0, d0, c0, m, rfl, upd_same, hv, m0, m1, fun r s' d' c' H' h0 h1 sb hq hv' => ⟨r, s', d', c', rfl, h0, h1, sb, hq, hv'⟩⟩) fun z s' hz => ?_
  cases z with
  | error e => exact hz
  | ok fl =>
    cases fl with
    | next => exact hz
    | brk => exact hz
    | cont => exact hz
    | ret u =>
      obtain ⟨v, H1, os, bare, un, hok1, rv, r, s2, d2, c2, rfl, h0, h1, sb, hq, hv2⟩ := hz
      refine ⟨.int r, upd H1 p (poolO p), os, bare, ?_, pool_of_lst hok1 hq hv2, rv, q r _ h0 h1 fun b o e => ?_⟩
      · exact un_retrack0 (un_retrack un hq (fun _ => nofun) (fun _ _ => nofun) fun _ => nofun) hp (fun _ => nofun) (fun _ _ => nofun) fun _ => nofun
      · by_cases z : b = p
        · subst z; rw [hp] at e; cases e; exact upd_same
        · rw [upd_ne z]; exact sb b o z ((upd_ne z).trans e)
theorem pool_wrap (F : FnG P w K mg base CX0 k f fd ps spPoolC) (hl : ps.length = 1) : FnG P w K mg base CX0 k f fd ps spPool := by
  refine ⟨fun vs H Q E ⟨n, e, _⟩ => by rw [e, hl]; rfl, fun A outer s H args us vs Q E hr hg e0 hb r hsp => ?_⟩
  obtain ⟨n, rfl, q⟩ := hsp
  refine codeAny_mono (F.run A outer s H args us [.int n] (fun v H1 => ∃ (p : Addr) (s' d' c' : Int), v = .ref p ∧ H p = none ∧ Same H H1 ∧ H1 p = some (.lst [.int s', .int d', .int c']) ∧ PoolV s' d' c') E hr hg e0 hb r
    ⟨n, rfl, fun p s' d' c' H' h0 sb hq hv' => ⟨p, s', d', c', rfl, h0, sb, hq, hv'⟩⟩) fun z s' hz => ?_
  cases z with
  | error e => exact hz
  | ok fl =>
    cases fl with
    | next => exact hz
    | brk => exact hz
    | cont => exact hz
    | ret u =>
      obtain ⟨v, H1, os, bare, un, hok1, rv, p, s2, d2, c2, rfl, h0, sb, hq, hv2⟩ := hz
      refine ⟨.ref p, upd H1 p (poolO p), os, bare, ?_, pool_of_lst hok1 hq hv2, rv, q p _ h0 (fun b o e => ?_) upd_same⟩
      · exact un_retrack un hq (fun _ => nofun) (fun _ _ => nofun) fun _ => nofun
      · rw [upd_ne (ne_of_none e h0)]; exact sb b o e
end
section
variable {P : Program} {w : World} {K : PySem.W.Frag} {mg : Str → Option Value} {base : Heap} {k : Nat} {x : Str} {st : Stmt} {ps : List Str}
theorem has_draw (F : Has P w K mg base CX0 k x st ps spDrawC) (hl : ps.length = 2) : Has P w K mg base CX0 k x st ps spDraw := by
  obtain ⟨fd, D, G⟩ := F.ex
  exact ⟨⟨fd, D, draw_wrap G hl⟩, F.glo⟩
theorem has_pool (F : Has P w K mg base CX0 k x st ps spPoolC) (hl : ps.length = 1) : Has P w K mg base CX0 k x st ps spPool := by
  obtain ⟨fd, D, G⟩ := F.ex
  exact ⟨⟨fd, D, pool_wrap G hl⟩, F.glo⟩
end
section
variable {J : It} {n : Nat} {G : Hp → Prop} {Y : Nat → Hp → V → Hp → Prop} {g : TG} {tt : TT} {te : TE} {vs : List Nat} {σ : L2.St} {H1 : Hp} {D : Addr} {Q : VK}
end
end TP

namespace TP
open PySem PySem.Spec PyProof.Rows L2
section
variable {J : It} {n : Nat} {G : Hp → Prop} {Y : Nat → Hp → V → Hp → Prop} {g : TG} {tt : TT} {te : TE} {tb : TS} {De : Ends} {wi : TI} {vs : List Nat} {σ : L2.St} {H H1 H2 : Hp} {D : Addr} {Q : VK} {Acc : Nat → List V → Hp → Prop} {K : PySem.W.Frag}
theorem w_for (h : wi σ H fun J H1 => ForOk J g tb De σ H1) : tFor wi g tb De σ H := h
theorem w_lc (h : wi σ H fun J H1 => ∀ D, H1 D = none → LcOk J g tt te vs σ H1 D Q) : tLc wi g tt te vs σ H Q := h
theorem w_yes {QB : Bool → Hp → Prop} (h : QB true H) : tYes σ H QB := h
theorem for_go (w : Walk J n G Y) (Pv : Nat → L2.St → Hp → Prop) (h0 : Pv 0 σ H) (hG : ∀ i σ H, i ≤ n → Pv i σ H → G H)
    (hs : ∀ i x σ H H', i < n → Pv i σ H → Y i H x H' → g x σ H' fun σ2 H2 => tb { De with nx := Pv (i + 1), ct := Pv (i + 1), bk := De.nx } σ2 H2) (hd : ∀ σ H, Pv n σ H → De.nx σ H) : ForOk J g tb De σ H := for_it w Pv h0 hG hs hd
theorem lc_go (w : Walk J n G Y) (Acc : Nat → List V → Hp → Prop) (hD : H1 D = none) (hG : ∀ H, Same H1 H → G H) (h0 : Acc 0 [] (upd H1 D (.lst [])))
    (hs : ∀ i x H H' acc, i < n → Same H1 H → H D = some (.lst acc) → acc.length ≤ i → Acc i acc H → Y i H x H' → g x (wipe σ vs) H' fun σ2 H2 => wipe σ2 vs = wipe σ vs ∧ tt σ2 H2 fun b H3 =>
      if b = true then te σ2 H3 fun y H4 => LcY H1 D Acc i y H4 else LcI H1 D Acc (i + 1) H3)
    (hd : ∀ acc H, Same H1 H → H D = some (.lst acc) → acc.length ≤ n → Acc n acc H → Q (.ref D) H) : LcOk J g tt te vs σ H1 D Q :=
  lc_it w (fun i H => LcI H1 D Acc i H) ⟨[], same_new hD, upd_same, Nat.le_refl _, h0⟩ (fun i H _ ⟨_, s, _⟩ => hG H s) (fun i x H H' hi ⟨acc, s, e, l, a⟩ hy => hs i x H H' acc hi s e l a hy) fun H ⟨acc, s, e, l, a⟩ => hd acc H s e l a
theorem lc_y {i : Nat} {y : V} {acc : List V} (hD : H1 D = none) (s : Same H1 H) (e : H D = some (.lst acc)) (l : acc.length ≤ i) (hi : i < 100000) (a : Acc (i + 1) (acc ++ [y]) (upd H D (.lst (acc ++ [y])))) : LcY H1 D Acc i y H :=
  ⟨acc, e, sz_lt (by omega), acc ++ [y], same_mut s hD, upd_same, by simp; omega, a⟩
theorem lc_skip {i : Nat} {acc : List V} (s : Same H1 H) (e : H D = some (.lst acc)) (l : acc.length ≤ i) (a : Acc (i + 1) acc H) : LcI H1 D Acc (i + 1) H := ⟨acc, s, e, Nat.le_succ_of_le l, a⟩
/-- each element by its place: scalars, or anything that does not lean on the heap -/
theorem lc_map (w : Walk J n G Y) (hn : n ≤ 100000) (f : Nat → V → Prop) (hD : H1 D = none) (hG : ∀ H, Same H1 H → G H)
    (hs : ∀ i x H H', i < n → Same H1 H → Y i H x H' → ∀ Qy : VK, (∀ y H4, Same H H4 → f i y → Qy y H4) → g x (wipe σ vs) H' fun σ2 H2 => wipe σ2 vs = wipe σ vs ∧ te σ2 H2 Qy)
    (hd : ∀ acc H, Same H1 H → H1 D = none → H D = some (.lst acc) → acc.length = n → (∀ i y, acc[i]? = some y → f i y) → Q (.ref D) H)
    (mono : ∀ {x σ H} {Q Q' : L2.St → Hp → Prop}, (∀ σ H, Q σ H → Q' σ H) → g x σ H Q → g x σ H Q') : LcOk J g tYes te vs σ H1 D Q := by
  let AccM : Nat → List V → Hp → Prop := fun i acc H => acc.length = i ∧ ∀ (j : Nat) (y : V), acc[j]? = some y → f j y
  refine lc_go w AccM hD hG ⟨rfl, fun j y e => by simp at e⟩ (fun i x H H' acc hi s e l a hy => ?_) fun acc H s e _ a => hd acc H s hD e a.1 a.2
  refine mono (fun σ2 H2 q => ⟨q.1, ?_⟩) (hs i x H H' hi s hy (fun y H4 => LcY H1 D AccM i y H4) fun y H4 s4 fy => lc_y (Acc := AccM) hD (s.trans s4) (s4 _ _ e) l (by omega) ⟨by simp [a.1], fun j z ej => ?_⟩)
  · exact w_yes (w_iteT q.2)
  · by_cases q : j < acc.length
    · rw [List.getElem?_append_left q] at ej; exact a.2 j z ej
    · rw [List.getElem?_append_right (Nat.le_of_not_lt q)] at ej
      have q2 : j = acc.length := by
        obtain ⟨h1, _⟩ := List.getElem?_eq_some_iff.mp ej
        simp at h1; omega
      subst q2
      simp at ej
      subst ej
      rw [a.1]; exact fy
theorem mono_gname {j : Nat} : ∀ {x σ H} {Q Q' : L2.St → Hp → Prop}, (∀ σ H, Q σ H → Q' σ H) → gName j x σ H Q → gName j x σ H Q' := fun h q => h _ _ q
variable {R : It → Hp → Prop} {ta : TA} {a : Addr} {xs : List V}
theorem w_iTup (h : te σ H (OnT K R)) : iTup K te σ H R := h
theorem w_iList (h : te σ H (OnL K R)) : iList K te σ H R := h
theorem w_iStr (h : te σ H (OnS R)) : iStr te σ H R := h
theorem w_iRng1 (h : ta σ H (OnR1 R)) : iRng1 ta σ H R := h
theorem w_iRng2 (h : ta σ H (OnR2 R)) : iRng2 ta σ H R := h
theorem w_iEnumT (h : ta σ H (OnE K R)) : iEnumT K ta σ H R := h
theorem w_onT (hs : SqT K H a xs) (h : R (Itt K a) H) : OnT K R (.ref a) H := ⟨a, rfl, ⟨xs, hs⟩, h⟩
theorem w_onL (hs : SqL K H a xs) (h : R (Itl K a) H) : OnL K R (.ref a) H := ⟨a, rfl, ⟨xs, hs⟩, h⟩
theorem w_onS {x : Str} (h : R (Its x) H) : OnS R (.str x) H := ⟨x, rfl, h⟩
theorem w_onR1 {j : Int} (h1 : -(2 ^ 62) ≤ j ∧ j < 2 ^ 62) (h : R (Itr 0 j.toNat) H) : OnR1 R [.int j] H := ⟨j, rfl, h1.1, h1.2, h⟩
theorem w_onE (hs : SqT K H a xs) (h : R (IteT K a) H) : OnE K R [.ref a] H := ⟨a, xs, rfl, hs, h⟩
end
section
variable {X : Cx}
theorem c_len : CallR X (.builtin "len") (rLenV X.K) := call_len
theorem c_abs : CallR X (.builtin "abs") rAbs := call_abs
theorem c_max2 (hc : X.calm = true) : CallR X (.builtin "max") rMx2 := call_max2 hc
theorem c_min2 (hc : X.calm = true) : CallR X (.builtin "min") rMn2 := call_min2 hc
theorem c_int1 : CallR X (.type "int") rInt1 := call_int1
theorem c_list : CallR X (.type "list") (rListS X.K) := call_list_of
theorem c_tuple : CallR X (.type "tuple") (rTupS X.K) := call_tuple_of
theorem c_divmod : CallR X (.builtin "divmod") rDivW := call_divmodW
theorem o_inSign : OpR X (compareOp .In) rInSign := op_in_sign
theorem o_isN : OpR X (compareOp .Is) rIsN := op_isN
theorem o_notN : OpR X (compareOp .IsNot) rNotN := op_notN
theorem o_addS : OpR X (binaryOp .Add) rAddS := op_add_str
theorem o_mulS : OpR X (binaryOp .Mult) rMulS := op_mul_str
end
section
variable {σ : L2.St} {H : Hp} {Q : VK} {K : PySem.W.Frag} {v x y : V} {a p : Addr} {xs ys : List V}
theorem w_lenT (hs : SqT K H a xs) (h : Q (.int (xs.length : Nat)) H) : rLenV K [.ref a] H Q := ⟨_, _, rfl, .inr ⟨xs, hs, rfl⟩, h⟩
theorem w_lenL (hs : SqL K H a xs) (h : Q (.int (xs.length : Nat)) H) : rLenV K [.ref a] H Q := ⟨_, _, rfl, .inl ⟨xs, hs, rfl⟩, h⟩
theorem w_lenS {z : Str} (hz : z.length ≤ sizeLine) (h : Q (.int (z.length : Nat)) H) : rLenV K [.str z] H Q := ⟨_, _, rfl, ⟨hz, rfl⟩, h⟩
theorem w_abs {i : Int} (h : Q (.int (if i < 0 then -i else i)) H) : rAbs [.int i] H Q := ⟨i, rfl, h⟩
theorem w_mx2 {i j : Int} (h : Q (.int (if j > i then j else i)) H) : rMx2 [.int i, .int j] H Q := ⟨i, j, rfl, h⟩
theorem w_mn2 {i j : Int} (h : Q (.int (if j < i then j else i)) H) : rMn2 [.int i, .int j] H Q := ⟨i, j, rfl, h⟩
theorem w_int1 {i : Int} (h : Q (.int i) H) : rInt1 [.int i] H Q := .inl ⟨i, rfl, h⟩
theorem w_listT (hs : SqT K H a xs) (h : ∀ l, H l = none → Q (.ref l) (upd H l (.lst xs))) : rListS K [.ref a] H Q := ⟨a, xs, rfl, .inr hs, h⟩
theorem w_tupL (hs : SqL K H a xs) (h : ∀ l, H l = none → Q (.ref l) (upd H l (.tup xs))) : rTupS K [.ref a] H Q := ⟨a, xs, rfl, .inl ⟨hs, h⟩⟩
theorem w_divW {i j : Int} (c : CDivP i j) (h : ∀ p, H p = none → Q (.ref p) (upd H p (.tup [.int (i / j), .int (i % j)]))) : rDivW [.int i, .int j] H Q := ⟨i, j, rfl, c, h⟩
theorem w_inSign {c : Nat} {z : Str} (h : Q (.bl (decide (c ∈ z.cps.toList))) H) : rInSign (.str ⟨#[c]⟩) (.str z) H Q := ⟨c, z, rfl, rfl, h⟩
theorem w_notInSign {c : Nat} {z : Str} (h : Q (.bl (!decide (c ∈ z.cps.toList))) H) : rNotInSign (.str ⟨#[c]⟩) (.str z) H Q := ⟨c, z, rfl, rfl, h⟩
theorem w_isN (h : Q (.bl (decide (x = .non))) H) : rIsN x .non H Q := ⟨rfl, h⟩
theorem w_notN (h : Q (.bl (!decide (x = .non))) H) : rNotN x .non H Q := ⟨rfl, h⟩
theorem w_isNN (h : Q (.bl true) H) : rIsN .non .non H Q := ⟨rfl, h⟩
theorem w_isNI {i : Int} (h : Q (.bl false) H) : rIsN (.int i) .non H Q := ⟨rfl, by have e : decide (V.int i = V.non) = false := decide_eq_false nofun; rw [e]; exact h⟩
theorem w_isNR (h : Q (.bl false) H) : rIsN (.ref a) .non H Q := ⟨rfl, by have e : decide (V.ref a = V.non) = false := decide_eq_false nofun; rw [e]; exact h⟩
theorem w_notNN (h : Q (.bl false) H) : rNotN .non .non H Q := ⟨rfl, h⟩
theorem w_notNI {i : Int} (h : Q (.bl true) H) : rNotN (.int i) .non H Q := ⟨rfl, by have e : decide (V.int i = V.non) = false := decide_eq_false nofun; rw [e]; exact h⟩
theorem w_notNR (h : Q (.bl true) H) : rNotN (.ref a) .non H Q := ⟨rfl, by have e : decide (V.ref a = V.non) = false := decide_eq_false nofun; rw [e]; exact h⟩
theorem w_ltS {i j : Str} (h : Q (.bl (decide (i.cps.toList < j.cps.toList))) H) : rLtS (.str i) (.str j) H Q := ⟨i, j, rfl, rfl, h⟩
theorem w_leS {i j : Str} (h : Q (.bl (!decide (j.cps.toList < i.cps.toList))) H) : rLeS (.str i) (.str j) H Q := ⟨i, j, rfl, rfl, h⟩
theorem w_addS {i j : Str} (hz : i.length + j.length ≤ sizeLine) (h : Q (.str (i ++ j)) H) : rAddS (.str i) (.str j) H Q := ⟨i, j, rfl, rfl, hz, h⟩
theorem w_mulS {z : Str} {i : Int} {n : Nat} (e : i = (n : Int)) (h1 : z.length * n ≤ 100000) (h2 : n ≤ 100000) (h : Q (.str (repS n z)) H) : rMulS (.str z) (.int i) H Q := ⟨z, n, rfl, by rw [e], h1, h2, h⟩
theorem w_all {bs : List Bool} (hs : SqL K H a (bs.map V.bl)) (h : Q (.bl (bs.all id)) H) : rAll K [.ref a] H Q := ⟨a, bs, rfl, hs, h⟩
theorem w_cat {l b : Addr} {xs zs : List V} (h1 : H l = some (.lst xs)) (h2 : H b = some (.lst zs)) (hz : xs.length + zs.length ≤ sizeLine) (h : ∀ p, H p = none → Q (.ref p) (upd H p (.lst (xs ++ zs)))) : rCat (.ref l) (.ref b) H Q := ⟨l, b, xs, zs, rfl, rfl, h1, h2, hz, h⟩
theorem w_append {l : Addr} (h1 : H l = some (.lst xs)) (hz : xs.length < sizeLine) (h : Q .non (upd H l (.lst (xs ++ [y])))) : rAppend (.ref l) [y] H Q := ⟨l, xs, y, rfl, rfl, h1, hz, h⟩
theorem w_slL {lo hi : Option Int} (hs : SqL K H a xs) (h : ∀ p, H p = none → Q (.ref p) (upd H p (.lst (cutV xs lo hi)))) : rSlL K (.ref a) lo hi H Q := ⟨a, xs, rfl, hs, h⟩
theorem w_slS {z : Str} {lo hi : Option Int} (hz : z.length ≤ sizeLine) (h : Q (.str (cutS z lo hi)) H) : rSlS (.str z) lo hi H Q := ⟨z, rfl, hz, h⟩
theorem w_ixS {z : Str} {i : Int} {c : Nat} (hz : z.length ≤ sizeLine) (ha : atI z.cps.toList i = some c) (h : Q (.str ⟨#[c]⟩) H) : rIxS (.str z) (.int i) H Q := ⟨z, i, c, rfl, rfl, hz, ha, h⟩
theorem w_M1 {r : V → List V → Hp → VK → Prop} {to te : TE} (h : to σ H fun x H1 => (∃ a, x = .str a) ∧ te σ H1 fun y H2 => r x [y] H2 Q) : tM1 r to te σ H Q := h
theorem w_strx {z : Str} {C : Prop} (h : C) : (∃ a, V.str z = .str a) ∧ C := ⟨⟨z, rfl⟩, h⟩
theorem w_tyL {C : Prop} (h1 : H a = some (.lst xs)) (h : C) : tyV K "list" (.ref a) H ∧ C := ⟨.inl ⟨rfl, xs, SqL.of h1⟩, h⟩
theorem w_join {s : Str} {ws : List Str} (hs : SqL K H a (ws.map V.str)) (hz : (ws.map (·.length)).sum + ws.length * s.length ≤ 16777216) (h : Q (.str (Txt.join s ws)) H) : rJoin K (.str s) [.ref a] H Q := ⟨s, a, ws, rfl, rfl, .inl hs, hz, h⟩
theorem w_dget2 {td ty tx : TE} (h : td σ H fun x H1 => ∃ a, x = .ref a ∧ IsD H1 a ∧ ty σ H1 fun y H2 => tx σ H2 fun z H3 => ∃ o, DGet H3 a y o ∧ Q (o.getD z) H3) : tDGet2 td ty tx σ H Q := h
theorem w_isD {kvs : List (Key × V)} {k : Addr → Prop} (h1 : H a = some (.dK kvs)) (h : k a) : ∃ b, V.ref a = .ref b ∧ IsD H b ∧ k b := ⟨a, rfl, .inl ⟨kvs, .inl h1⟩, h⟩
theorem w_dgetk {kvs : List (Key × V)} {n : Str} {k : Option V → Prop} (h1 : H a = some (.dK kvs)) (h : k (valV kvs (.inr n))) : ∃ o, DGet H a (.str n) o ∧ k o := ⟨_, DGet.k (k := .inr n) h1, h⟩
theorem w_dput {td ty tv : TE} {De : Ends} (h : tv σ H fun v H1 => td σ H1 fun x H2 => ty σ H2 fun y H3 => ∃ a H4, x = .ref a ∧ DPut H3 a y v H4 ∧ De.nx σ H4) : sDPut td ty tv De σ H := h
theorem w_dputk {kvs : List (Key × V)} {n : Str} {k : Hp → Prop} (h1 : H a = some (.dK kvs)) (hl : kvs.length < sizeLine) (h : k (upd H a (.dK (putK kvs (.inr n) v)))) : ∃ b H4, V.ref a = .ref b ∧ DPut H b (.str n) v H4 ∧ k H4 := ⟨a, _, rfl, DPut.k (k := .inr n) h1 hl, h⟩
end
end TP

namespace TP
open PySem PySem.Spec PyProof.Rows L2
section
variable {σ : L2.St} {H : Hp} {Q : VK} {QO : Option Int → Hp → Prop} {tr tk : TA} {te : TE} {D : Ends} {sp : Sp} {E : XK}
theorem w_p2 {k : V → V → Prop} {a b : V} (h : k a b) : Par2 k [a, b] := ⟨a, b, rfl, h⟩
theorem w_p3 {k : V → V → V → Prop} {a b c : V} (h : k a b c) : Par3 k [a, b, c] := ⟨a, b, c, rfl, h⟩
theorem w_tpar {i j : Nat} (h : tr σ H fun vs H1 => Par2 (fun v w => D.nx ((σ.set i (some v)).set j (some w)) H1) vs) : tPar i j tr D σ H := h
theorem w_tpar3 {i j l : Nat} (h : tr σ H fun vs H1 => Par3 (fun u v w => D.nx (((σ.set i (some u)).set j (some v)).set l (some w)) H1) vs) : tPar3 i j l tr D σ H := h
theorem w_intC {i : Int} {k : Int → Prop} (h : k i) : IntC (.int i) k := ⟨i, rfl, h⟩
theorem w_tpart (h : te σ H fun x H1 => IntC x fun i => QO (some i) H1) : tPart te σ H QO := h
theorem w_kwC {n m : Nat} {g : {α : Type} → List α → List α → List α} {vs zs : List V} {k : List V → Prop} (h1 : vs.length = n) (h2 : zs.length = m) (h : k (g vs zs)) : KwC n m g vs zs k := ⟨h1, h2, h⟩
theorem w_tcallW {n m : Nat} {g : {α : Type} → List α → List α → List α} (h : tr σ H fun vs H1 => tk σ H1 fun zs H2 => KwC n m g vs zs fun as => sp as H2 Q E) : tCallW sp n m g E tr tk σ H Q := h
end
end TP

namespace TP
open PySem PySem.Spec PyProof.Rows L2
theorem acc_map {α β : Type} {acc : List β} {l : List α} {f : α → β} (hl : acc.length = l.length) (hf : ∀ (i : Nat) (y : β), acc[i]? = some y → ∃ a, l[i]? = some a ∧ y = f a) : acc = l.map f := by
  refine List.ext_getElem? fun i => ?_
  rw [List.getElem?_map]
  cases e : acc[i]? with
  | some y =>
    obtain ⟨a, h1, h2⟩ := hf i y e
    rw [h1, h2]; rfl
  | none =>
    rw [List.getElem?_eq_none (by rw [← hl]; exact List.getElem?_eq_none_iff.mp e)]; rfl
theorem all_map_id {α : Type} (f : α → Bool) (l : List α) : (l.map f).all id = l.all f := by
  rw [List.all_map]; rfl
theorem take_succ_snoc {α : Type} : ∀ {l : List α} {i : Nat} {x : α}, l[i]? = some x → l.take (i + 1) = l.take i ++ [x]
  | [], i, x, h => by simp at h
  | a :: l, 0, x, h => by simp at h; subst h; rfl
  | a :: l, i + 1, x, h => by
    have ih := take_succ_snoc (l := l) (i := i) (x := x) (by simpa using h)
    rw [List.take_succ_cons, ih]; rfl
theorem isi_int (d : PyData) : kitB (tyD d) "int" = some (isIntD d) := by
  cases d
  · exact (by decide +kernel : kitB "NoneType" "int" = some false)
  · exact (by decide +kernel : kitB "bool" "int" = some true)
  · exact (by decide +kernel : kitB "int" "int" = some true)
  · exact (by decide +kernel : kitB "str" "int" = some false)
  · exact (by decide +kernel : kitB "list" "int" = some false)
  · exact (by decide +kernel : kitB "tuple" "int" = some false)
  · exact (by decide +kernel : kitB "dict" "int" = some false)
theorem isi_bool (d : PyData) : kitB (tyD d) "bool" = some (isBoolD d) := by
  cases d
  · exact (by decide +kernel : kitB "NoneType" "bool" = some false)
  · exact (by decide +kernel : kitB "bool" "bool" = some true)
  · exact (by decide +kernel : kitB "int" "bool" = some false)
  · exact (by decide +kernel : kitB "str" "bool" = some false)
  · exact (by decide +kernel : kitB "list" "bool" = some false)
  · exact (by decide +kernel : kitB "tuple" "bool" = some false)
  · exact (by decide +kernel : kitB "dict" "bool" = some false)
theorem isi_str (d : PyData) : kitB (tyD d) "str" = some (isStrD d) := by
  cases d
  · exact (by decide +kernel : kitB "NoneType" "str" = some false)
  · exact (by decide +kernel : kitB "bool" "str" = some false)
  · exact (by decide +kernel : kitB "int" "str" = some false)
  · exact (by decide +kernel : kitB "str" "str" = some true)
  · exact (by decide +kernel : kitB "list" "str" = some false)
  · exact (by decide +kernel : kitB "tuple" "str" = some false)
  · exact (by decide +kernel : kitB "dict" "str" = some false)
theorem isi_tup (d : PyData) : kitB (tyD d) "tuple" = some (isTupD d) := by
  cases d
  · exact (by decide +kernel : kitB "NoneType" "tuple" = some false)
  · exact (by decide +kernel : kitB "bool" "tuple" = some false)
  · exact (by decide +kernel : kitB "int" "tuple" = some false)
  · exact (by decide +kernel : kitB "str" "tuple" = some false)
  · exact (by decide +kernel : kitB "list" "tuple" = some false)
  · exact (by decide +kernel : kitB "tuple" "tuple" = some true)
  · exact (by decide +kernel : kitB "dict" "tuple" = some false)
theorem szDs_get : ∀ {ds : List PyData} {i : Nat} {d : PyData}, szDs ds = true → ds[i]? = some d → szD d = true
  | [], i, d, _, e => by simp at e
  | a :: r, 0, d, h, e => by
    simp at e; subst e
    exact (Bool.and_eq_true_iff.mp (show (szD a && szDs r) = true from h)).1
  | a :: r, i + 1, d, h, e => szDs_get (i := i) (Bool.and_eq_true_iff.mp (show (szD a && szDs r) = true from h)).2 (by simpa using e)
theorem mem_letters (c : Nat) : decide (c ∈ letters.cps.toList) = isLet c := by
  have e : letters.cps.toList = [97, 98, 99, 100, 101, 102, 103, 104, 105, 106, 107, 108, 109, 110, 111, 112, 113, 114, 115, 116, 117, 118, 119, 120, 121, 122] := by decide +kernel
  rw [e]
  unfold isLet
  by_cases h : 97 ≤ c ∧ c ≤ 122
  · rw [decide_eq_true h.1, decide_eq_true h.2]
    refine decide_eq_true ?_
    simp only [List.mem_cons, List.not_mem_nil, or_false]
    omega
  · have : (decide (97 ≤ c) && decide (c ≤ 122)) = false := by
      rw [Bool.and_eq_false_iff, decide_eq_false_iff_not, decide_eq_false_iff_not]; omega
    rw [this]
    refine decide_eq_false ?_
    simp only [List.mem_cons, List.not_mem_nil, or_false]
    omega
theorem szD_bag {ps : Bag} (h : ∀ p ∈ ps, p.1.length ≤ 100000) : szDs (ps.map pairD) = true := by
  induction ps with
  | nil => rfl
  | cons p r ih =>
    have h1 := h p List.mem_cons_self
    show (szD (pairD p) && szDs (r.map pairD)) = true
    rw [ih fun q hq => h q (List.mem_cons_of_mem _ hq)]
    simp [szD, szDs, pairD, h1]
theorem isName_len {x : Str} (h : isName x = true) : 0 < x.length ∧ x.length < 9 := by
  unfold isName at h
  have h1 := Bool.and_eq_true_iff.mp h
  have h2 := Bool.and_eq_true_iff.mp h1.2
  exact ⟨of_decide_eq_true h1.1, of_decide_eq_true h2.1⟩
theorem isName_let {x : Str} (h : isName x = true) : x.cps.toList.all isLet = true := by
  unfold isName at h
  exact (Bool.and_eq_true_iff.mp (Bool.and_eq_true_iff.mp h).2).2
theorem BagOk.sz {ps : Bag} (h : BagOk ps) : szDs (ps.map pairD) = true := szD_bag fun p hp => by have := (isName_len (h.nam p hp)).2; omega
section
variable {K : PySem.W.Frag} {H : Hp}
theorem pair_inv {v : V} {p : Str × Int} (h : Dp K H v (pairD p)) : ∃ a, v = .ref a ∧ SqT K H a [.str p.1, .int p.2] := by
  obtain ⟨a, xs, rfl, hs, hd⟩ := dp_tup_inv h
  refine ⟨a, rfl, ?_⟩
  cases hd with
  | cons h1 r =>
    cases r with
    | cons h2 r2 =>
      cases r2
      rw [dp_str_inv h1, dp_int_inv h2] at hs
      exact hs
theorem pair_mk {a : Addr} {n : Str} {c : Int} (h : SqT K H a [.str n, .int c]) : Dp K H (.ref a) (pairD (n, c)) := .tup h (.cons (.str n) (.cons (.int c) .nil))
theorem bag_inv {v : V} {ps : Bag} (h : Dp K H v (bagD ps)) : ∃ a xs, v = .ref a ∧ SqT K H a xs ∧ DpAll K H xs (ps.map pairD) ∧ xs.length = ps.length := by
  obtain ⟨a, xs, rfl, hs, hd⟩ := dp_tup_inv h
  exact ⟨a, xs, rfl, hs, hd, by rw [dps_len hd, List.length_map]⟩
theorem bag_get {xs : List V} {ps : Bag} {i : Nat} {x : V} (hd : DpAll K H xs (ps.map pairD)) (e : xs[i]? = some x) : ∃ p b, ps[i]? = some p ∧ x = .ref b ∧ SqT K H b [.str p.1, .int p.2] := by
  obtain ⟨d, h1, h2⟩ := dps_get hd e
  rw [List.getElem?_map] at h1
  cases q : ps[i]? with
  | none => rw [q] at h1; cases h1
  | some p =>
    rw [q] at h1
    have e2 : pairD p = d := Option.some.inj h1
    subst e2
    obtain ⟨b, e3, h3⟩ := pair_inv h2
    exact ⟨p, b, rfl, e3, h3⟩
end
theorem kv_find (t : Bag) (n : Str) : valV (kvOf t) (Sum.inr n) = ((t.find? fun p => decide (p.1 = n)).map fun p => V.int p.2) := by
  unfold valV kvOf
  induction t with
  | nil => rfl
  | cons p r ih =>
    rw [List.map_cons, List.find?_cons, List.find?_cons]
    have e : decide ((Sum.inr p.1 : Key) = Sum.inr n) = decide (p.1 = n) := key_rr p.1 n
    dsimp only
    rw [e]
    cases decide (p.1 = n)
    · exact ih
    · rfl
theorem kv_get (t : Bag) (n : Str) : (valV (kvOf t) (Sum.inr n)).getD (.int 0) = .int (getT t n) := by
  rw [kv_find]
  unfold getT
  cases t.find? fun p => decide (p.1 = n) <;> rfl
theorem kv_put (t : Bag) (n : Str) (c : Int) : putK (kvOf t) (Sum.inr n) (.int c) = kvOf (putT t n c) := by
  have e1 : ((kvOf t).any fun kv => decide (kv.1 = Sum.inr n)) = t.any fun p => decide (p.1 = n) := by
    unfold kvOf
    rw [List.any_map]
    congr 1
    funext p
    exact key_rr p.1 n
  unfold putK putT
  rw [e1]
  split
  · unfold kvOf
    rw [List.map_map, List.map_map]
    congr 1
    funext p
    by_cases h : p.1 = n
    · simp [h]
    · simp [h, show ¬ ((Sum.inr p.1 : Key) = Sum.inr n) from fun q => h (Sum.inr.inj q)]
  · unfold kvOf
    rw [List.map_append]
    rfl
theorem kv_len (t : Bag) : (kvOf t).length = t.length := by unfold kvOf; rw [List.length_map]
theorem putT_len (t : Bag) (n : Str) (c : Int) : (putT t n c).length ≤ t.length + 1 := by
  unfold putT
  split
  · rw [List.length_map]; omega
  · simp
theorem foldl_addT_len : ∀ (ps t : Bag), (ps.foldl addT t).length ≤ t.length + ps.length
  | [], t => by simp
  | p :: r, t => by
    have h1 := foldl_addT_len r (addT t p)
    have h2 := putT_len t p.1 (getT t p.1 + p.2)
    simp only [List.foldl_cons, List.length_cons]
    unfold addT at h1 ⊢
    omega
theorem tabOf_len (ps : Bag) : (tabOf ps).length ≤ ps.length := by have := foldl_addT_len ps []; simpa [tabOf] using this
theorem tabOf_snoc (ps : Bag) (p : Str × Int) : tabOf (ps ++ [p]) = addT (tabOf ps) p := by unfold tabOf; rw [List.foldl_append]; rfl
theorem getT_put (t : Bag) (n m : Str) (c : Int) : getT (putT t n c) m = if m = n then c else getT t m := by
  have h := kv_get (putT t n c) m
  rw [← kv_put, valV_put] at h
  have h2 := kv_get t m
  by_cases e : m = n
  · subst e
    rw [if_pos rfl] at h ⊢
    exact (V.int.inj h).symm
  · rw [if_neg (fun q => e (Sum.inr.inj q))] at h
    rw [if_neg e]
    rw [h2] at h
    exact (V.int.inj h).symm
theorem getT_foldl : ∀ (ps t : Bag) (n : Str), getT (ps.foldl addT t) n = getT t n + cntC ps n
  | [], t, n => by simp [cntC]
  | p :: r, t, n => by
    rw [List.foldl_cons, getT_foldl r (addT t p) n]
    unfold addT
    rw [getT_put]
    unfold cntC
    rw [List.filter_cons]
    by_cases e : n = p.1
    · subst e
      rw [if_pos rfl, if_pos (decide_eq_true rfl), List.map_cons, List.sum_cons]
      omega
    · rw [if_neg e, if_neg (by simpa using fun q : p.1 = n => e q.symm)]
theorem getT_tabOf (ps : Bag) (n : Str) : getT (tabOf ps) n = cntC ps n := by
  unfold tabOf
  rw [getT_foldl]
  have : getT [] n = 0 := rfl
  omega
end TP

namespace TP
open PySem PySem.Spec PyProof.Rows L2
theorem str_ext {x y : Str} (h : x.cps.toList = y.cps.toList) : x = y := by
  cases x; cases y
  congr 1
  exact Array.ext' h
theorem app_list (x y : Str) : (x ++ y).cps.toList = x.cps.toList ++ y.cps.toList := by
  show (x.cps ++ y.cps).toList = _
  simp
theorem len_list (x : Str) : x.length = x.cps.toList.length := by show x.cps.size = _; simp
theorem join0_list : ∀ ys : List Str, (Str.join (Str.ofString "") ys).cps.toList = (ys.map fun y => y.cps.toList).flatten
  | [] => rfl
  | [x] => by simp [Str.join]
  | x :: y :: r => by
    have ih := join0_list (y :: r)
    show (x ++ Str.ofString "" ++ Str.join (Str.ofString "") (y :: r)).cps.toList = _
    rw [app_list, app_list, ih]
    have e : (Str.ofString "").cps.toList = [] := by decide +kernel
    rw [e]
    simp
theorem txt_join_eq (s : Str) (ys : List Str) : Txt.join s ys = Str.join s ys := TL.join_eq s ys
theorem isName_of {x : Str} (h0 : 0 < x.length) (h1 : x.length < 9) (h2 : lets x) : isName x = true := by
  unfold isName
  rw [decide_eq_true h0, decide_eq_true h1, List.all_eq_true.mpr h2]; rfl
theorem wordA_all : ∀ b, b < 15 → ((List.range 15).map (wordA b)).Nodup ∧ ∀ w ∈ (List.range 15).map (wordA b), isName w = true := by decide +kernel
theorem wordB_all : ∀ b, b < 15 → ((List.range 15).map (wordB b)).Nodup ∧ ∀ w ∈ (List.range 15).map (wordB b), isName w = true := by decide +kernel
theorem range_prefix {α : Type} {f : Nat → α} {n m : Nat} (h : n ≤ m) : (List.range n).map f = ((List.range m).map f).take n := by
  rw [← List.map_take, List.take_range, Nat.min_eq_left h]
theorem words_of {f : Nat → Str} {n : Nat} (hn : n ≤ 15) (h : ((List.range 15).map f).Nodup ∧ ∀ w ∈ (List.range 15).map f, isName w = true) : ((List.range n).map f).Nodup ∧ ∀ w ∈ (List.range n).map f, isName w = true := by
  rw [range_prefix hn]
  exact ⟨h.1.sublist (List.take_sublist _ _), fun w hw => h.2 w (List.mem_of_mem_take hw)⟩
theorem wordC_all {b : Nat} {l r : List Nat} (hb : b < 15) (hl : ∀ c ∈ l, isLet c = true) (hr : ∀ c ∈ r, isLet c = true) (hn : l.length + r.length ≤ 7) : ((List.range 15).map (wordC b l r)).Nodup ∧ ∀ w ∈ (List.range 15).map (wordC b l r), isName w = true := by
  constructor
  · unfold List.Nodup
    rw [List.pairwise_map]
    refine List.Pairwise.imp_of_mem ?_ List.nodup_range
    intro i j hi hj hne e
    apply hne
    have hi' := List.mem_range.mp hi
    have hj' := List.mem_range.mp hj
    have e2 : (l ++ (97 + (b + 5 * i) % 26) :: r) = (l ++ (97 + (b + 5 * j) % 26) :: r) := by
      have := congrArg (fun z : Str => z.cps.toList) e
      simpa [wordC] using this
    have e3 := List.append_cancel_left e2
    injection e3 with e4 _
    omega
  · intro w hw
    obtain ⟨i, _, rfl⟩ := List.mem_map.mp hw
    have e : (wordC b l r i).cps.toList = l ++ (97 + (b + 5 * i) % 26) :: r := by simp [wordC]
    refine isName_of ?_ ?_ fun c hc => ?_
    · rw [len_list, e]; simp; omega
    · rw [len_list, e]; simp; omega
    · rw [e] at hc
      rcases List.mem_append.mp hc with h | h
      · exact hl c h
      · rcases List.mem_cons.mp h with h | h
        · subst h
          unfold isLet
          rw [decide_eq_true (by omega), decide_eq_true (by omega)]; rfl
        · exact hr c h
theorem words_mk {f : Nat → Str} {n : Nat} (hn : n ≤ 15) (h : ((List.range 15).map f).Nodup ∧ ∀ w ∈ (List.range 15).map f, isName w = true) : WordsOk ((List.range n).map f) n :=
  ⟨by simp, (words_of hn h).1, (words_of hn h).2⟩
theorem at_of' {α : Type} {xs : List α} {z : Int} {j : Nat} {v : α} (e : z = (j : Int)) (h : xs[j]? = some v) : atI xs z = some v := by rw [e]; exact atI_nat h
theorem letters_at {i : Int} (h0 : 0 ≤ i) (h1 : i < 26) : atI letters.cps.toList i = some (97 + i.toNat) := by
  have all : ∀ j : Nat, j < 26 → letters.cps.toList[j]? = some (97 + j) := by decide +kernel
  exact at_of' (j := i.toNat) (by omega) (all i.toNat (by omega))
theorem tri : ∀ a b : List Nat, a < b ∨ a = b ∨ b < a
  | [], [] => .inr (.inl rfl)
  | [], _ :: _ => .inl (List.nil_lt_cons _ _)
  | _ :: _, [] => .inr (.inr (List.nil_lt_cons _ _))
  | a :: r, b :: t => by
    rcases Nat.lt_trichotomy a b with h | h | h
    · exact .inl (List.cons_lt_cons_iff.mpr (.inl h))
    · subst h
      rcases tri r t with h | h | h
      · exact .inl (List.cons_lt_cons_iff.mpr (.inr ⟨rfl, h⟩))
      · exact .inr (.inl (by rw [h]))
      · exact .inr (.inr (List.cons_lt_cons_iff.mpr (.inr ⟨rfl, h⟩)))
    · exact .inr (.inr (List.cons_lt_cons_iff.mpr (.inl h)))
theorem ltS_trans {a b c : Str} (h : ltS a b) (h2 : ltS b c) : ltS a c := List.lt_trans h h2
theorem ltS_tri (a b : Str) : ltS a b ∨ a = b ∨ ltS b a := by
  rcases tri a.cps.toList b.cps.toList with h | h | h
  · exact .inl h
  · exact .inr (.inl (str_ext h))
  · exact .inr (.inr h)
theorem ltS_asymm {a b : Str} (h : ltS a b) : ¬ ltS b a := fun h2 => ltS_irrefl _ (ltS_trans h h2)
theorem rising_asc : ∀ (l : List Str) (p : Str), risingS p l = true → (p :: l).Nodup → (p :: l).Pairwise ltS
  | [], p, _, _ => List.pairwise_singleton _ _
  | x :: r, p, h, nd => by
    have h' := Bool.and_eq_true_iff.mp (show (!ltCps x.cps.toList p.cps.toList && risingS x r) = true from h)
    have nd' := List.nodup_cons.mp nd
    have ih := rising_asc r x h'.2 nd'.2
    have nlt : ¬ ltS x p := fun q => by
      have e : ltCps x.cps.toList p.cps.toList = true := by rw [ltCps_eq]; exact decide_eq_true q
      rw [e] at h'
      exact Bool.false_ne_true h'.1
    have px : ltS p x := by
      rcases ltS_tri p x with q | q | q
      · exact q
      · exact absurd (by rw [q]; exact List.mem_cons_self) nd'.1
      · exact absurd q nlt
    rw [List.pairwise_cons]
    refine ⟨fun z hz => ?_, ih⟩
    rcases List.mem_cons.mp hz with e | hz
    · rw [e]; exact px
    · exact ltS_trans px ((List.pairwise_cons.mp ih).1 z hz)
theorem sorted_asc : ∀ {ys : List Str}, sortedS ys = true → ys.Nodup → ys.Pairwise ltS
  | [], _, _ => .nil
  | x :: r, h, nd => rising_asc r x h nd
end TP

namespace TP
open PySem PySem.Spec PyProof.Rows L2
section
variable {X : Cx} (K : PySem.W.Frag)
theorem k_ixL (h : X.K = K := by rfl) : IxR X (rIxL K) := by subst h; exact ix_list
theorem k_ixT (h : X.K = K := by rfl) : IxR X (rIxT K) := by subst h; exact ix_tup
theorem k_slL (h : X.K = K := by rfl) : SlR X (rSlL K) := by subst h; exact sl_list
theorem k_slT (h : X.K = K := by rfl) : SlR X (rSlA K) := by subst h; exact sl_tupA
theorem k_catT (h : X.K = K := by rfl) : OpR X (binaryOp .Add) (rCatA K) := by subst h; exact op_catA
theorem k_len (h : X.K = K := by rfl) : CallR X (.builtin "len") (rLenV K) := by subst h; exact c_len
theorem k_list (h : X.K = K := by rfl) : CallR X (.type "list") (rListS K) := by subst h; exact c_list
theorem k_tuple (h : X.K = K := by rfl) : CallR X (.type "tuple") (rTupS K) := by subst h; exact c_tuple
theorem k_all (hc : X.calm = true) (h : X.K = K := by rfl) : CallR X (.builtin "all") (rAll K) := by subst h; exact cr_all hc
theorem k_repr (hg : X.A.guards = some []) (hu : X.A.units + 64 < cLine) (h : X.K = K := by rfl) : CallR X (.builtin "repr") (rRepr K) := by subst h; exact call_repr hg hu
theorem k_isi (h : X.K = K := by rfl) : CallR X (.builtin "isinstance") (rIsi K) := by subst h; exact call_isi
variable {o e a b : Expr} {to te ta tb : TE} {apos cpos pos p tpos : Pos} {es : List Expr} {t : TA} {tg : Expr} {rest : List Expr}
theorem k_join (ho : PE X o to) (he : PE X e te) (h : X.K = K := by rfl) (hs : starEach [e] X.env = [(false, eval e X.env)] := by rfl) (hbase : attributeBase o "join" X.env (eval o X.env) = eval o X.env := by rfl) (hline : (apos.endLine == pos.line) = true := by rfl) :
    PE X (.Call (.Attribute o "join" apos) [e] [] pos) (tM1 (rJoin K) to te) := by subst h; exact pe_join ho he hs hbase hline
theorem k_bm {T id : String} {name : Str} {r : V → List V → Hp → VK → Prop} (pa : PlainAttrs T) (slot : Slot T name id) (hty : typeOf (.builtin id) = pure (.type "method_descriptor")) (hm : MtR X id r) (ho : PE X o to) (ha : PA X (e :: es) t) (h : X.K = K := by rfl)
    (hbase : attributeBase o name X.env (eval o X.env) = eval o X.env := by rfl)
    (hfew : ((backTo cpos (starEach (e :: es) X.env)).all (fun x => !x.1) && (backToKw cpos (keywordEach [] X.env)).all (fun x => x.1.isSome) && decide ((e :: es).length + ([] : List Keyword).length + (if ([] : List Keyword).isEmpty then 0 else 1) < 30)) = true := by rfl)
    (hline : (apos.endLine == cpos.line) = true := by rfl) (hs : starEach (e :: es) X.env = (false, eval e X.env) :: starEach es X.env := by rfl) (hplain : (backTo cpos (starEach es X.env)).any (·.1) = false := by rfl) :
    PE X (.Call (.Attribute o name apos) (e :: es) [] cpos) (tBM K T r to t) := by subst h; exact pe_bm pa slot hty hm ho ha hbase hfew hline hs hplain
theorem k_gtup {k n : Nat} {t : TGs} (hc : X.calm = true) (hg : PGs X es t) (h : X.K = K := by rfl) (hn : (assignEach es X.env).length = n := by rfl) (hst : (assignEach es X.env).findIdx? (·.1) = none := by rfl) : PG X (.Tuple es k pos) (gTup K n t) := by subst h; exact pg_tup hc hg hn hst
theorem k_iList (hl : PE X e te) (h : X.K = K := by rfl) : PI X tg e (iList K te) := by subst h; exact pi_list hl
theorem k_iTup (hl : PE X e te) (h : X.K = K := by rfl) : PI X tg e (iTup K te) := by subst h; exact pi_tup hl
theorem k_iEnumT {elts : List Expr} {kk : Nat} (hg : Gl X "enumerate") (hm : X.mg "enumerate" = none) (ha : PA X [e] t) (h : X.K = K := by rfl) (hs : starEach [e] X.env = [(false, eval e X.env)] := by rfl) :
    PI X (.Tuple elts kk tpos) (.Call (.Name "enumerate" p) [e] [] pos) (iEnumT K t) := by subst h; exact pi_enumT hg hm ha hs
end
section
variable {J : It} {n : Nat} {G : Hp → Prop} {Y : Nat → Hp → V → Hp → Prop} {g : TG} {tt : TT} {te : TE} {vs : List Nat} {σ : L2.St} {H1 : Hp} {D : Addr} {Q : VK} {α : Type}
end
section
variable {J : It} {n : Nat} {G : Hp → Prop} {Y : Nat → Hp → V → Hp → Prop} {g : TG} {te : TE} {vs : List Nat} {σ : L2.St} {H1 : Hp} {D : Addr} {Q : VK} {K : PySem.W.Frag}
theorem flatDs_snoc : ∀ {ds : List PyData} {d : PyData}, flatDs ds = true → flatD d = true → flatDs (ds ++ [d]) = true
  | [], d, _, h => by show (flatD d && true) = true; rw [h]; rfl
  | a :: r, d, h, h2 => by
    have h' := Bool.and_eq_true_iff.mp (show (flatD a && flatDs r) = true from h)
    show (flatD a && flatDs (r ++ [d])) = true
    rw [h'.1, flatDs_snoc h'.2 h2]; rfl
theorem lc_dat (K : PySem.W.Frag) (w : Walk J n G Y) (hn : n ≤ 100000) (R : Nat → PyData → Prop) (hD : H1 D = none) (hG : ∀ H, Same H1 H → G H)
    (hs : ∀ i x H H', i < n → Same H1 H → Y i H x H' → ∀ Qy : VK, (∀ y d H4, Same H H4 → Dp K H4 y d → flatD d = true → R i d → Qy y H4) → g x (wipe σ vs) H' fun σ2 H2 => wipe σ2 vs = wipe σ vs ∧ te σ2 H2 Qy)
    (hd : ∀ acc ds H, Same H1 H → H1 D = none → H D = some (.lst acc) → DpAll K H acc ds → flatDs ds = true → ds.length = n → (∀ i d, ds[i]? = some d → R i d) → Q (.ref D) H)
    (mono : ∀ {x σ H} {Q Q' : L2.St → Hp → Prop}, (∀ σ H, Q σ H → Q' σ H) → g x σ H Q → g x σ H Q') : LcOk J g tYes te vs σ H1 D Q := by
  let Acc : Nat → List V → Hp → Prop := fun i acc H => ∃ ds, DpAll K H acc ds ∧ flatDs ds = true ∧ ds.length = i ∧ ∀ (j : Nat) (d : PyData), ds[j]? = some d → R j d
  refine lc_go w Acc hD hG ⟨[], .nil, rfl, rfl, fun j d e => by simp at e⟩ (fun i x H H' acc hi s e l a hy => ?_) fun acc H s e _ ⟨ds, h1, h2, h3, h4⟩ => hd acc ds H s hD e h1 h2 h3 h4
  obtain ⟨ds, h1, h2, h3, h4⟩ := a
  refine mono (fun σ2 H2 q => ⟨q.1, w_yes (w_iteT q.2)⟩) (hs i x H H' hi s hy (fun y H4 => LcY H1 D Acc i y H4) fun y d H4 s4 dy fl ry => ?_)
  have e4 := s4 _ _ e
  refine lc_y (Acc := Acc) hD (s.trans s4) e4 l (by omega) ⟨ds ++ [d], ?_, flatDs_snoc h2 fl, by simp [h3], fun j z ej => ?_⟩
  · have st : SameT H4 (upd H4 D (.lst (acc ++ [y]))) := SameT.lst e4
    exact dps_snoc (dps_flat st (dps_same s4 h1) h2) (dp_flat st dy fl)
  · by_cases q : j < ds.length
    · rw [List.getElem?_append_left q] at ej; exact h4 j z ej
    · rw [List.getElem?_append_right (Nat.le_of_not_lt q)] at ej
      have q2 : j = ds.length := by
        obtain ⟨h1, _⟩ := List.getElem?_eq_some_iff.mp ej
        simp at h1; omega
      subst q2
      simp at ej
      subst ej
      rw [h3]; exact ry
end
theorem log2_le (i : Int) (h0 : 0 ≤ i) (h1 : i ≤ 10 ^ 100) : i.natAbs.log2 < 1920 := by
  refine Nat.lt_of_lt_of_le (PySem.Flt.log2_lt_of (by decide : 0 < 400) ?_) (by decide)
  have h2 : i.natAbs ≤ 10 ^ 100 := by omega
  exact Nat.lt_of_le_of_lt h2 (by decide)
theorem okD_name {x : Str} (h : isName x = true) : okD (.str x) = true := by
  show (x.cps.toList.all fun c => decide (c < 16 ^ 8)) = true
  rw [List.all_eq_true]
  intro c hc
  have := List.all_eq_true.mp (isName_let h) c hc
  unfold isLet at this
  have h2 := of_decide_eq_true (Bool.and_eq_true_iff.mp this).2
  exact decide_eq_true (by omega)
theorem bag_shows_aux : ∀ ps : Bag, BagS ps → okDs (ps.map pairD) = true ∧ rbs (ps.map pairD) ≤ 2100 * ps.length ∧ PyData.depthAll (ps.map pairD) ≤ 1
  | [], _ => by simp [okDs, rbs, PyData.depthAll]
  | p :: r, h => by
    obtain ⟨i1, i2, i3⟩ := bag_shows_aux r fun q hq => h q (List.mem_cons_of_mem _ hq)
    obtain ⟨h1, h2, h3⟩ := h p List.mem_cons_self
    have hl := (isName_len h1).2
    have e1 : okD (pairD p) = true := by
      show (okD (.str p.1) && (okD (.int p.2) && true)) = true
      rw [okD_name h1, show okD (.int p.2) = true from decide_eq_true (log2_le _ h2 h3)]; rfl
    have e2 : rb (pairD p) = (10 * p.1.length + 2 + 2 + (1921 + 2 + 0)) + 3 := rfl
    have e3 : (pairD p).depth = 1 := by simp [pairD, PyData.depth, PyData.depthAll]
    refine ⟨?_, ?_, ?_⟩
    · show (okD (pairD p) && okDs (r.map pairD)) = true
      rw [e1, i1]; rfl
    · show rb (pairD p) + 2 + rbs (r.map pairD) ≤ _
      rw [e2, List.length_cons]; omega
    · show max (pairD p).depth (PyData.depthAll (r.map pairD)) ≤ 1
      rw [e3]; omega
theorem ds_eq {ds : List PyData} {α : Type} {l : List α} {f : α → PyData} (hl : ds.length = l.length) (h : ∀ (i : Nat) (d : PyData), ds[i]? = some d → ∃ a, l[i]? = some a ∧ d = f a) : ds = l.map f := acc_map hl h
theorem Has.fixed {P : Program} {w : World} {K : PySem.W.Frag} {mg : Str → Option Value} {base : Heap} {CX : CXT} {k : Nat} {x : Str} {st : Stmt} {ps : List Str} {sp : Sp} (h : Has P w K mg base CX k x st ps sp) {fd : FuncData}
    (F0 : FunD K x x (defArgs st) (defBody st) (defScope st) [] [] (He.ga K x) fd) : FnG P w K mg base CX k (He.ga K x) fd ps sp := by
  obtain ⟨fd', F1, G⟩ := h.ex
  have e : fd' = fd := by
    obtain ⟨oc, od, dV, kV, doc, pm, an, cdv, ct, osl, e1, l1, _⟩ := F1.ex
    obtain ⟨oc2, od2, dV2, kV2, doc2, pm2, an2, cdv2, ct2, osl2, e2, l2, _⟩ := F0.ex
    rw [l1] at l2
    injection l2 with l3
    injection l3 with _ _ l4 _
    injection l4
  rw [← e]; exact G
end TP

namespace TP
open PySem PySem.Spec PyProof.Rows L2
theorem vals_pick {xs : List V} {us : List Value} (r : Vals xs us) : ∀ js : List Nat, Vals (js.filterMap fun k => xs[k]?) (js.filterMap fun k => us[k]?)
  | [] => .nil
  | j :: js => by
    rw [List.filterMap_cons, List.filterMap_cons]
    cases e : xs[j]? with
    | none =>
      rw [r.none_of e]
      exact vals_pick r js
    | some x =>
      obtain ⟨u, e2, ru⟩ := r.get e
      rw [e2]
      exact .cons ru (vals_pick r js)
section
variable {prog : Program} {w : World} {A : Around} {E : Value → Shared → Prop} {s : Shared}
theorem sliceApplied_step {sl : Addr} {vs : Value} {c : Int} {n : Nat} {Q : Int × Int × Nat → Shared → Prop} (hs : s.heap.IsSliceOf sl .none .none vs) (ps : IsPart vs (some c)) (hc : (c == 0) = false)
    (h : Q (stepLo c n, c, Builtin.Slice.slicePlaces (stepLo c n) (stepHi c n) c) s) : wpAny (model prog w) A (Builtin.Slice.sliceApplied (.ref sl) (pure (n : Int))) Q E s := by
  obtain ⟨os, hos, hcs, hds⟩ := id hs
  unfold Builtin.Slice.sliceApplied Builtin.Slice.sliceFields
  refine wpAny_bind (wpAny_bind (wpAny_field hos hds (x := .none) rfl (wpAny_bind (wpAny_field hos hds (x := .none) rfl (wpAny_bind (wpAny_field hos hds (x := vs) rfl (wpAny_pure ?_)))))))
  refine wpAny_bind (HT.slicePart_ ps ?_)
  show wpAny _ _ (if (c == 0) = true then _ else _) _ _ s
  rw [hc, if_neg Bool.false_ne_true]
  refine wpAny_bind (slicePart_none (wpAny_bind (slicePart_none (wpAny_bind (wpAny_pure ?_)))))
  have ea : Builtin.Slice.sliceAdjust none none c (n : Int) = (stepLo c n, stepHi c n) := by
    unfold Builtin.Slice.sliceAdjust stepLo stepHi
    by_cases h : c < 0
    · simp [h]
    · simp [h]
  show wpAny _ _ (match Builtin.Slice.sliceAdjust none none c (n : Int) with | (lo, hi) => pure (lo, c, Builtin.Slice.slicePlaces lo hi c)) _ _ s
  rw [ea]
  exact wpAny_pure h
theorem getItem_tuple_step {t sl : Addr} {its : List Value} {vs : Value} {c : Int} {Q : Value → Shared → Prop} (ht : IsTup s.heap t its.toArray) (hs : s.heap.IsSliceOf sl .none .none vs) (ps : IsPart vs (some c)) (hc : (c == 0) = false) (hc1 : (c == 1) = false)
    (h : Q (.ref s.heap.objs.size) { s with heap := s.heap.push { cls := .type "tuple", data := .seq (stepL c its).toArray } }) (hsz : (stepL c its).length ≤ sizeLine) : wpAny (model prog w) A (getItem (.ref t) (.ref sl)) Q E s := by
  have htake : sizeOk (.seq (stepL c its).toArray) := by
    show (stepL c its).toArray.size ≤ sizeLine
    rw [List.size_toArray]; exact hsz
  obtain ⟨os, hos, hcs, hds⟩ := id hs
  have hTs : s.TypeIs (.ref sl) "slice" := ⟨os, hos, hcs⟩
  have esz : its.toArray.size = its.length := by simp
  unfold getItem
  try with_reducible refine wpAny_holding ?_
  first | refine wpAny_bind (wpAny_pure ?_) | skip
  refine wpAny_bind (wpAny_sequenceKey ht.typeIs (by decide) ?_)
  refine wpAny_bind (wpAny_callSpecial?_slot (name := Str.ofString "__getitem__") ht.typeIs PyProof.Rows.slot_tuple_getitem
    (wpAny_call_entry PyProof.Rows.slot_tuple_getitem ht.typeIs entry_tuple_getitem ?_ (args_tuple_getitem _ _)))
  show wpAny _ _ (Builtin.Tuple.tupleItemsOf (.ref t) >>= _) _ _ s
  refine wpAny_bind (tupleItemsOf_ ht ?_)
  refine wpAny_bind (wpAny_typeOf hTs ?_)
  rw [if_pos (by decide), esz]
  refine wpAny_bind (sliceApplied_step hs ps hc ?_)
  have hno : ¬ ((stepLo c its.length == 0 && c == 1 && Builtin.Slice.slicePlaces (stepLo c its.length) (stepHi c its.length) c == its.length) = true) := by
    intro q
    rw [Bool.and_eq_true, Bool.and_eq_true] at q
    rw [hc1] at q
    exact Bool.false_ne_true q.1.2
  show wpAny _ _ (if (stepLo c its.length == 0 && c == 1 && Builtin.Slice.slicePlaces (stepLo c its.length) (stepHi c its.length) c == its.length) = true then _ else _) _ _ s
  rw [if_neg hno]
  have ep : ((List.range (Builtin.Slice.slicePlaces (stepLo c its.length) (stepHi c its.length) c)).filterMap fun (k : Nat) => its.toArray[(stepLo c its.length + (k : Int) * c).toNat]?).toArray = (stepL c its).toArray := by
    unfold stepL stepIx
    rw [List.filterMap_map]
    simp
    rfl
  rw [ep]
  first
    | exact wpAny_bind (m := Builtin.Tuple.tupleExact _) (wpAny_newObj_type (wpAny_pure ⟨_, rfl, wpAny_pure h⟩) htake)
    | exact wpAny_bind (m := Builtin.Tuple.tupleExact _) (wpAny_newObj_type (wpAny_bind (wpAny_pure (wpAny_pure ⟨_, rfl, wpAny_pure h⟩))) htake)
    | exact wpAny_bind (wpAny_bind (m := Builtin.Tuple.tupleExact _) (wpAny_newObj_type (wpAny_pure (wpAny_pure ⟨_, rfl, wpAny_pure h⟩)) htake))
    | exact wpAny_bind (wpAny_bind (m := Builtin.Tuple.tupleExact _) (wpAny_newObj_type (wpAny_pure ⟨_, rfl, wpAny_pure h⟩) htake))
end
theorem pe_stepT {X : Cx} {e se : Expr} {te : TE} {tp : TO} {p3 pos : Pos} {c : Int} (K : PySem.W.Frag) (he : PE X e te) (hst : PO X (some se) tp) (hts : ∀ σ H (Q : Option Int → Hp → Prop), Q (some c) H → tp σ H Q) (hc : (c == 0) = false) (hc1 : (c == 1) = false) (hK : X.K = K := by rfl)
    (htail : ∀ (v u : Value), subscripted (.Slice none none (some se) p3) false v u = operate [v, u] (getItem v u) := by intro _ _; with_unfolding_all rfl) : PE X (.Subscript e (.Slice none none (some se) p3) pos) (tStepT K c te) := by
  subst hK
  refine ⟨fun pins s σ H Q I h => ?_⟩
  refine Subscript_ (thn (he.run pins s σ H _ I h) fun v s1 ⟨x, H1, I1, r1, q1⟩ => ?_)
  obtain ⟨a, xs, ex, hx, hz, q⟩ := q1
  subst ex
  have ev : v = .ref a := r1
  subst ev
  refine wpAny_Slice (thn (po_none.run pins s1 σ H1 (fun o H2 => o = none ∧ H2 = H1) I1 ⟨rfl, rfl⟩) fun vl s2 ⟨l, H2, I2, pl, el, e2⟩ => ?_)
  subst el e2
  refine thn (po_none.run pins s2 σ H2 (fun o H3 => o = none ∧ H3 = H2) I2 ⟨rfl, rfl⟩) fun vu s3 ⟨u, H3, I3, pu, eu, e3⟩ => ?_
  subst eu e3
  refine thn (hst.run pins s3 σ H3 (fun o H4 => o = some c ∧ H4 = H3) I3 (hts _ _ _ ⟨rfl, rfl⟩)) fun vs s4 ⟨o, H4, I4, ps, eo, e4⟩ => ?_
  subst eo e4
  cases pl
  cases pu
  have I5 : Inv X pins σ H4 { s4 with heap := s4.heap.push { cls := .type "slice", data := .fields #[.none, .none, vs] } } := I4.kept (t' := s4.toks) fun b ob z => Heap.get?_push_of_some _ z
  obtain ⟨its, r, ht, hzz⟩ := I5.tuple hx
  show wpAny (model X.prog X.w) X.A (subscriptTail e (.Slice none none (some se) p3) (.ref a) (.ref s4.heap.objs.size)) (EP X pins σ Q) X.xe { s4 with heap := s4.heap.push { cls := .type "slice", data := .fields #[.none, .none, vs] } }
  have rr : Vals (stepL c xs) (stepL c its) := by
    unfold stepL
    rw [r.length]
    exact vals_pick r _
  refine tail_any (ops := [.ref a, .ref s4.heap.objs.size]) ht.typeIs (PyProof.Rows.slot_tuple_getitem.lookup) ?_ (htail _ _)
  refine getItem_tuple_step ht (Heap.IsSliceOf.new _ .none .none vs) ps hc hc1 ?_ (by rw [← rr.length]; exact hz)
  refine ⟨.ref _, _, I5.laid (t' := s4.toks) (o := .tup (stepL c xs)) (fun b ob z => Heap.get?_push_of_some _ z) (Nat.le_refl _) ?_, rfl, q _ (I5.hok.fresh (Nat.le_refl _))⟩
  exact ⟨hz, _, rr, ⟨_, Heap.get?_push_size _ rfl, rfl, _, rfl⟩⟩
section
variable {X : Cx} {e : Expr} {te : TE} {k : Nat} {p1 p2 p3 pos : Pos} (K : PySem.W.Frag)
theorem k_revT (he : PE X e te) (hK : X.K = K := by rfl) : PE X (.Subscript e (.Slice none none (some (.UnaryOp .USub (.Constant (.int 1) k p1) p2)) p3) pos) (tStepT K (-1) te) :=
  pe_stepT K he (po_some (pe_un un_neg pe_int)) (fun σ H Q q => ⟨1, rfl, -1, rfl, q⟩) rfl rfl hK
end
theorem range_pick {α : Type} : ∀ l : List α, ((List.range l.length).filterMap fun k => l[k]?) = l
  | [] => rfl
  | a :: r => by
    rw [List.length_cons, List.range_succ_eq_map, List.filterMap_cons, List.filterMap_map]
    show a :: (List.range r.length).filterMap (fun k => r[k]?) = a :: r
    rw [range_pick r]
theorem stepIx_back (n : Nat) : stepIx (-1) n = (List.range n).map fun k => n - 1 - k := by
  have e1 : Builtin.Slice.slicePlaces ((n : Int) - 1) (-1) (-1) = n := by
    unfold Builtin.Slice.slicePlaces
    rw [if_neg (by decide)]
    by_cases h : n = 0
    · rw [if_neg (by omega)]; omega
    · rw [if_pos (by omega)]
      have e : ((n : Int) - 1 - -1 - 1) / (- -1) = (n : Int) - 1 := by
        have : (- -1 : Int) = 1 := rfl
        rw [this, Int.ediv_one]; omega
      rw [e]; omega
  show (List.range (Builtin.Slice.slicePlaces ((n : Int) - 1) (-1) (-1))).map (fun (k : Nat) => (((n : Int) - 1) + (k : Int) * (-1)).toNat) = _
  rw [e1]
  refine List.map_congr_left fun k hk => ?_
  have := List.mem_range.mp hk
  omega
theorem fm_congr {α β : Type} {f g : α → Option β} : ∀ {l : List α}, (∀ a ∈ l, f a = g a) → l.filterMap f = l.filterMap g
  | [], _ => rfl
  | a :: r, h => by rw [List.filterMap_cons, List.filterMap_cons, h a List.mem_cons_self, fm_congr fun b hb => h b (List.mem_cons_of_mem _ hb)]
theorem stepL_back {α : Type} (xs : List α) : stepL (-1) xs = xs.reverse := by
  unfold stepL
  rw [stepIx_back, List.filterMap_map]
  have e := range_pick xs.reverse
  rw [List.length_reverse] at e
  rw [← e]
  refine fm_congr fun k hk => ?_
  have := List.mem_range.mp hk
  show xs[xs.length - 1 - k]? = (xs.reverse)[k]?
  rw [List.getElem?_reverse this]
section
variable {J : It} {n : Nat} {G : Hp → Prop} {Y : Nat → Hp → V → Hp → Prop} {g : TG} {tt : TT} {te : TE} {vs : List Nat} {σ : L2.St} {H1 : Hp} {D : Addr} {Q : VK} {α : Type}
theorem lc_fmd (K : PySem.W.Frag) (w : Walk J n G Y) (l : List α) (f : α → Option PyData) (hl : l.length = n) (hn : n ≤ 100000) (hf : ∀ a d, f a = some d → flatD d = true) (hD : H1 D = none) (hG : ∀ H, Same H1 H → G H)
    (hs : ∀ i x a H H', l[i]? = some a → Same H1 H → Y i H x H' → ∀ (Qy : VK) (Qn : Hp → Prop), (∀ y d H4, Same H H4 → f a = some d → Dp K H4 y d → Qy y H4) → (∀ H4, Same H H4 → f a = none → Qn H4) →
      g x (wipe σ vs) H' fun σ2 H2 => wipe σ2 vs = wipe σ vs ∧ tt σ2 H2 fun b H3 => if b = true then te σ2 H3 (fun y H4 => Qy y H4) else Qn H3)
    (hd : ∀ acc H, Same H1 H → H1 D = none → H D = some (.lst acc) → DpAll K H acc (l.filterMap f) → Q (.ref D) H) : LcOk J g tt te vs σ H1 D Q := by
  have flat : ∀ l' : List α, flatDs (l'.filterMap f) = true := by
    intro l'
    induction l' with
    | nil => rfl
    | cons a r ih =>
      rw [List.filterMap_cons]
      cases e : f a with
      | none => exact ih
      | some d => show (flatD d && flatDs (r.filterMap f)) = true; rw [hf a d e, ih]; rfl
  let Acc : Nat → List V → Hp → Prop := fun i acc H => DpAll K H acc ((l.take i).filterMap f)
  refine lc_go w Acc hD hG (by show DpAll K _ [] _; simp; exact .nil) (fun i x H H' acc hi s e l0 a hy => ?_) fun acc H s e _ a => ?_
  · have ha : l[i]? = some l[i] := List.getElem?_eq_getElem (by omega)
    have aa : DpAll K H acc ((l.take i).filterMap f) := a
    refine hs i x l[i] H H' ha s hy (fun y H4 => LcY H1 D Acc i y H4) (fun H4 => LcI H1 D Acc (i + 1) H4) (fun y d H4 s4 ed dy => ?_) fun H4 s4 ed => ?_
    · have e4 := s4 _ _ e
      refine lc_y (Acc := Acc) hD (s.trans s4) e4 l0 (by omega) ?_
      have st : SameT H4 (upd H4 D (.lst (acc ++ [y]))) := SameT.lst e4
      show DpAll K _ (acc ++ [y]) ((l.take (i + 1)).filterMap f)
      rw [take_succ_snoc ha, List.filterMap_append, List.filterMap_cons, ed]
      exact dps_snoc (dps_flat st (dps_same s4 aa) (flat _)) (dp_flat st dy (hf _ _ ed))
    · refine lc_skip (Acc := Acc) (s.trans s4) (s4 _ _ e) l0 ?_
      show DpAll K _ acc ((l.take (i + 1)).filterMap f)
      rw [take_succ_snoc ha, List.filterMap_append, List.filterMap_cons, ed]
      simp
      exact dps_same s4 aa
  · have aa : DpAll K H acc ((l.take n).filterMap f) := a
    rw [List.take_of_length_le (by omega)] at aa
    exact hd acc H s hD e aa
end
theorem getT_cons (p : Str × Int) (r : Bag) (n : Str) : getT (p :: r) n = if p.1 = n then p.2 else getT r n := by
  unfold getT
  rw [List.find?_cons]
  by_cases e : p.1 = n
  · rw [if_pos e, decide_eq_true e]; rfl
  · rw [if_neg e, decide_eq_false e]
theorem getT_out {t : Bag} {n : Str} (h : ∀ p ∈ t, p.1 ≠ n) : getT t n = 0 := by
  unfold getT
  rw [List.find?_eq_none.mpr fun p hp => by simpa using h p hp]; rfl
theorem getT_mem : ∀ {t : Bag} {p : Str × Int}, (t.map (·.1)).Nodup → p ∈ t → getT t p.1 = p.2
  | [], p, _, h => by cases h
  | q :: r, p, nd, h => by
    rw [getT_cons]
    have nd' := List.nodup_cons.mp (show (q.1 :: r.map (·.1)).Nodup from nd)
    rcases List.mem_cons.mp h with e | h
    · rw [e, if_pos rfl]
    · rw [if_neg (fun e : q.1 = p.1 => nd'.1 (by rw [e]; exact List.mem_map.mpr ⟨p, h, rfl⟩))]
      exact getT_mem nd'.2 h
theorem can_unique : ∀ {f : Str → Int} {ps qs : Bag}, IsCan f ps → IsCan f qs → ps = qs
  | f, [], [], _, _ => rfl
  | f, [], q :: r, h1, h2 => by
    have e := h1.cnt q.1
    rw [← h2.cnt q.1, getT_cons, if_pos rfl] at e
    have := h2.pos q List.mem_cons_self
    have : getT [] q.1 = 0 := rfl
    omega
  | f, p :: r, [], h1, h2 => by
    have e := h2.cnt p.1
    rw [← h1.cnt p.1, getT_cons, if_pos rfl] at e
    have := h1.pos p List.mem_cons_self
    have : getT [] p.1 = 0 := rfl
    omega
  | f, p :: r, q :: t, h1, h2 => by
    have a1 := List.pairwise_cons.mp h1.asc
    have a2 := List.pairwise_cons.mp h2.asc
    have in1 : ∀ n, 0 < f n → n = p.1 ∨ ltS p.1 n := fun n hn => by
      rw [← h1.cnt n, getT_cons] at hn
      by_cases e : p.1 = n
      · exact .inl e.symm
      · rw [if_neg e] at hn
        refine .inr (Classical.byContradiction fun z => ?_)
        rw [getT_out (fun x hx e2 => z (by have := a1.1 x hx; rw [e2] at this; exact this))] at hn
        omega
    have in2 : ∀ n, 0 < f n → n = q.1 ∨ ltS q.1 n := fun n hn => by
      rw [← h2.cnt n, getT_cons] at hn
      by_cases e : q.1 = n
      · exact .inl e.symm
      · rw [if_neg e] at hn
        refine .inr (Classical.byContradiction fun z => ?_)
        rw [getT_out (fun x hx e2 => z (by have := a2.1 x hx; rw [e2] at this; exact this))] at hn
        omega
    have fp : f p.1 = p.2 := by rw [← h1.cnt p.1, getT_cons, if_pos rfl]
    have fq : f q.1 = q.2 := by rw [← h2.cnt q.1, getT_cons, if_pos rfl]
    have pp := h1.pos p List.mem_cons_self
    have pq := h2.pos q List.mem_cons_self
    have en : p.1 = q.1 := by
      rcases in1 q.1 (by omega) with e | e
      · exact e.symm
      · rcases in2 p.1 (by omega) with e2 | e2
        · exact e2
        · exact absurd e2 (ltS_asymm e)
    have epq : p = q := Prod.ext en (by rw [← fp, ← fq, en])
    subst epq
    have ih : r = t := can_unique (f := fun n => if p.1 = n then 0 else f n)
      ⟨a1.2, fun x hx => h1.pos x (List.mem_cons_of_mem _ hx), fun n => by
        by_cases e : p.1 = n
        · rw [if_pos e, getT_out fun x hx e2 => ltS_ne (a1.1 x hx) (e.trans e2.symm)]
        · rw [if_neg e, ← h1.cnt n, getT_cons, if_neg e]⟩
      ⟨a2.2, fun x hx => h2.pos x (List.mem_cons_of_mem _ hx), fun n => by
        by_cases e : p.1 = n
        · rw [if_pos e, getT_out fun x hx e2 => ltS_ne (a2.1 x hx) (e.trans e2.symm)]
        · rw [if_neg e, ← h2.cnt n, getT_cons, if_neg e]⟩
    rw [ih]
theorem namesOf_snoc (ns : List Str) (n : Str) : namesOf (ns ++ [n]) = addN (namesOf ns) n := by unfold namesOf; rw [List.foldl_append]; rfl
theorem kvN_put (l : List Str) (n : Str) : putK (kvN l) (Sum.inr n) (.bl true) = kvN (addN l n) := by
  have e1 : ((kvN l).any fun kv => decide (kv.1 = Sum.inr n)) = decide (n ∈ l) := by
    unfold kvN
    rw [List.any_map]
    by_cases h : n ∈ l
    · rw [decide_eq_true h, List.any_eq_true]
      exact ⟨n, h, by simp⟩
    · rw [decide_eq_false h]
      rw [Bool.eq_false_iff]
      intro z
      obtain ⟨x, hx, e⟩ := List.any_eq_true.mp z
      have : x = n := Sum.inr.inj (of_decide_eq_true e)
      exact h (this ▸ hx)
  unfold putK addN
  rw [e1]
  by_cases h : n ∈ l
  · rw [if_pos (decide_eq_true h), if_pos h]
    unfold kvN
    rw [List.map_map]
    refine List.map_congr_left fun x _ => ?_
    by_cases z : (Sum.inr x : Key) = Sum.inr n
    · simp [z]
    · simp [z]
  · rw [if_neg (by rw [decide_eq_false h]; exact Bool.false_ne_true), if_neg h]
    unfold kvN
    rw [List.map_append]; rfl
theorem namesOf_len (ns : List Str) : (namesOf ns).length ≤ ns.length := by have := (namesOf_aux ns [] List.nodup_nil).2.2.2; simpa [namesOf] using this
theorem namesOf_sub {ns ws : List Str} (h : ∀ x ∈ ns, x ∈ ws) : (namesOf ns).length ≤ ws.length := nodup_sub_len (namesOf_nodup ns) fun x hx => h x (namesOf_mem.mp hx)
theorem firstNo_some {ds : List PyData} {i : Nat} (hi : i < ds.length) (hb : noOrdAt ds i = true) (hp : ∀ j, j < i → noOrdAt ds j = false) : firstNo ds = some i := by
  unfold firstNo
  rw [List.find?_range_eq_some]
  exact ⟨hb, List.mem_range.mpr hi, fun j hj => by rw [hp j hj]; rfl⟩
theorem firstNo_none {ds : List PyData} (hp : ∀ j, j < ds.length → noOrdAt ds j = false) : firstNo ds = none := by
  unfold firstNo
  rw [List.find?_eq_none]
  intro j hj
  rw [hp j (List.mem_range.mp hj)]
  exact Bool.false_ne_true
theorem nmD_map (ps : Bag) : (ps.map pairD).map nmD = ps.map (·.1) := by rw [List.map_map]; rfl
theorem OrdOk.sz {ps : Bag} (h : OrdOk ps) : szDs (ps.map pairD) = true := szD_bag fun p hp => by have := (isName_len (h.nam p hp)).2; omega
theorem tab_keys : ∀ (ps t : Bag), (ps.foldl addT t).map (·.1) = (ps.map (·.1)).foldl addN (t.map (·.1))
  | [], t => rfl
  | p :: r, t => by
    rw [List.foldl_cons, tab_keys r, List.map_cons, List.foldl_cons]
    congr 1
    unfold addT putT addN
    have e : (t.any fun q => decide (q.1 = p.1)) = decide (p.1 ∈ t.map (·.1)) := by
      by_cases h : p.1 ∈ t.map (·.1)
      · rw [decide_eq_true h, List.any_eq_true]
        obtain ⟨q, hq, e⟩ := List.mem_map.mp h
        exact ⟨q, hq, decide_eq_true e⟩
      · rw [decide_eq_false h, Bool.eq_false_iff]
        intro z
        obtain ⟨q, hq, e⟩ := List.any_eq_true.mp z
        exact h (List.mem_map.mpr ⟨q, hq, of_decide_eq_true e⟩)
    rw [e]
    by_cases h : p.1 ∈ t.map (·.1)
    · rw [if_pos (decide_eq_true h), if_pos h, List.map_map]
      refine List.map_congr_left fun q _ => ?_
      by_cases z : q.1 = p.1
      · simp [z]
      · simp [z]
    · rw [if_neg (by rw [decide_eq_false h]; exact Bool.false_ne_true), if_neg h, List.map_append]; rfl
theorem tabOf_keys (ps : Bag) : (tabOf ps).map (·.1) = namesOf (ps.map (·.1)) := tab_keys ps []
theorem cnt_pos {ps : Bag} (h : ∀ p ∈ ps, 0 ≤ p.2) (n : Str) : 0 ≤ cntC ps n := by
  unfold cntC
  generalize hl : ps.filter (fun p => decide (p.1 = n)) = l
  have hm : ∀ p ∈ l, 0 ≤ p.2 := fun p hp => h p ((List.mem_filter.mp (by rw [hl]; exact hp)).1)
  clear hl
  induction l with
  | nil => simp
  | cons p r ih =>
    rw [List.map_cons, List.sum_cons]
    have := hm p List.mem_cons_self
    have := ih fun q hq => hm q (List.mem_cons_of_mem _ hq)
    omega
end TP

namespace TP
open PySem PySem.Spec PyProof.Rows L2
theorem c_lenD {X : Cx} : CallR X (.builtin "len") rLenD := call_lenD
theorem c_sortedDk {X : Cx} (hc : X.calm = true) : CallR X (.builtin "sorted") rSortedDk := call_sortedD hc
section
variable {K : PySem.W.Frag} {σ : L2.St} {H : Hp} {Q : VK} {te td ty : TE} {QB : Bool → Hp → Prop} {a : Addr} {xs : List V} {v w : V}
theorem w_lenD {kvs : List (Key × V)} (h1 : H a = some (.dK kvs)) (h : Q (.int (kvs.length : Nat)) H) : rLenD [.ref a] H Q := ⟨a, kvs, rfl, h1, h⟩
theorem w_sortedDk {t : Bag} (h1 : H a = some (.dK (kvOf t))) (hl : t.length < 64) (h : ∀ (ys : List Str) (p : Addr), ys.Perm (t.map (·.1)) → sortedS ys = true → H p = none → Q (.ref p) (upd H p (.lst (ys.map V.str)))) : rSortedDk [.ref a] H Q :=
  ⟨a, kvOf t, t.map (·.1), rfl, .inl h1, by unfold kvOf; rw [List.map_map, List.map_map]; rfl, by rw [List.length_map]; exact hl, h⟩
theorem w_tru (h : te σ H fun x H1 => TruC K x H1 fun b => QB b H1) : tTru K te σ H QB := h
theorem w_truI {k : Bool → Prop} {i : Int} (h : k (i != 0)) : TruC K (.int i) H k := ⟨_, rfl, h⟩
theorem w_truB {k : Bool → Prop} {b : Bool} (h : k b) : TruC K (.bl b) H k := ⟨_, rfl, h⟩
theorem w_dget (h : td σ H fun x H1 => ty σ H1 fun y H2 => DGetC x y H2 Q) : tDGet td ty σ H Q := h
theorem w_dgetc {kvs : List (Key × V)} {n : Str} (h1 : H a = some (.dK kvs)) (e : valV kvs (.inr n) = some v) (h : Q v H) : DGetC (.ref a) (.str n) H Q := ⟨a, v, rfl, by have := DGet.k (k := .inr n) h1; rw [e] at this; exact this, h⟩
end
theorem AllSame.flat {K : PySem.W.Frag} {H : Hp} : ∀ {xs : List V}, xs.all flatB = true → AllSame K H xs xs
  | [], _ => .nil
  | x :: r, h => by
    have h' := Bool.and_eq_true_iff.mp (show (flatB x && r.all flatB) = true from h)
    exact .cons (.inl ⟨rfl, h'.1⟩) (AllSame.flat h'.2)
section
variable {X : Cx} {pins : List (Addr × Obj)} {σ : L2.St} {H : Hp} {s : Shared}
end
section
variable {K : PySem.W.Frag} {H : Hp} {Q : VK} {a b : Addr} {xs ys : List V}
end
theorem canF_mem {f : Str → Int} {ys : List Str} {p : Str × Int} (h : p ∈ canF f ys) : p.1 ∈ ys ∧ p.2 = f p.1 ∧ 0 < p.2 := by
  unfold canF at h
  obtain ⟨y, hy, e⟩ := List.mem_filterMap.mp h
  by_cases z : 0 < f y
  · rw [if_pos z] at e
    cases e
    exact ⟨hy, rfl, z⟩
  · rw [if_neg z] at e; cases e
theorem canF_cons (f : Str → Int) (y : Str) (r : List Str) : canF f (y :: r) = (if 0 < f y then [(y, f y)] else []) ++ canF f r := by
  unfold canF
  rw [List.filterMap_cons]
  by_cases z : 0 < f y
  · rw [if_pos z, if_pos z]; rfl
  · rw [if_neg z, if_neg z]; rfl
theorem canF_get (f : Str → Int) : ∀ (ys : List Str) (n : Str), getT (canF f ys) n = if n ∈ ys ∧ 0 < f n then f n else 0
  | [], n => by simp [canF, getT]
  | y :: r, n => by
    rw [canF_cons]
    by_cases z : 0 < f y
    · rw [if_pos z]
      show getT ((y, f y) :: canF f r) n = _
      rw [getT_cons, canF_get f r]
      by_cases e : y = n
      · subst e
        rw [if_pos rfl, if_pos ⟨List.mem_cons_self, z⟩]
      · rw [if_neg (show ¬ (y, f y).1 = n from e)]
        have : (n ∈ y :: r ∧ 0 < f n) ↔ (n ∈ r ∧ 0 < f n) := by
          rw [List.mem_cons]
          exact ⟨fun ⟨h, h2⟩ => ⟨h.elim (fun q => absurd q.symm e) id, h2⟩, fun ⟨h, h2⟩ => ⟨.inr h, h2⟩⟩
        simp only [this]
    · rw [if_neg z]
      show getT (canF f r) n = _
      rw [canF_get f r]
      have : (n ∈ y :: r ∧ 0 < f n) ↔ (n ∈ r ∧ 0 < f n) := by
        rw [List.mem_cons]
        exact ⟨fun ⟨h, h2⟩ => ⟨h.elim (fun q => absurd (q ▸ h2) z) id, h2⟩, fun ⟨h, h2⟩ => ⟨.inr h, h2⟩⟩
      simp only [this]
theorem canF_asc {f : Str → Int} : ∀ {ys : List Str}, ys.Pairwise ltS → (canF f ys).Pairwise fun a b => ltS a.1 b.1
  | [], _ => .nil
  | y :: r, h => by
    have h' := List.pairwise_cons.mp h
    rw [canF_cons]
    have ih := canF_asc (f := f) h'.2
    split
    · exact List.pairwise_cons.mpr ⟨fun p hp => h'.1 _ (canF_mem hp).1, ih⟩
    · exact ih
theorem canF_can {t : Bag} {ys : List Str} (hp : ys.Perm (t.map (·.1))) (asc : ys.Pairwise ltS) : IsCan (fun n => posI (getT t n)) (canF (getT t) ys) := by
  refine ⟨canF_asc asc, fun p hp => (canF_mem hp).2.2, fun n => ?_⟩
  rw [canF_get]
  show _ = if 0 < getT t n then getT t n else 0
  by_cases z : 0 < getT t n
  · have : n ∈ ys := hp.mem_iff.mpr (Classical.byContradiction fun q => by
      rw [getT_out (fun p hp e => q (List.mem_map.mpr ⟨p, hp, e⟩))] at z
      omega)
    rw [if_pos ⟨this, z⟩, if_pos z]
  · rw [if_neg (fun q => z q.2), if_neg z]
theorem canF_len (f : Str → Int) (ys : List Str) : (canF f ys).length ≤ ys.length := List.length_filterMap_le _ _
theorem can_nam {f : Str → Int} {ps : Bag} (h : IsCan f ps) {p : Str × Int} (hp : p ∈ ps) : f p.1 = p.2 := by rw [← h.cnt, getT_mem (asc_nodup h.asc) hp]
theorem kv_some {t : Bag} {n : Str} (h : n ∈ t.map (·.1)) : valV (kvOf t) (Sum.inr n) = some (.int (getT t n)) := by
  rw [kv_find]
  unfold getT
  cases e : t.find? fun p => decide (p.1 = n) with
  | some p => rfl
  | none =>
    obtain ⟨p, hp, e2⟩ := List.mem_map.mp h
    have := List.find?_eq_none.mp e p hp
    simp [e2] at this
theorem cnt_le : ∀ {a : Bag}, (∀ p ∈ a, 0 ≤ p.2) → ∀ n, cntC a n ≤ sumC a
  | [], _, n => by simp [sumC, cntC]
  | p :: r, h, n => by
    rw [sumC_cons, cntC_cons]
    have := h p List.mem_cons_self
    have := cnt_le (a := r) (fun q hq => h q (List.mem_cons_of_mem _ hq)) n
    split <;> omega
theorem sum_le (c : Int) : ∀ {a : Bag}, (∀ p ∈ a, p.2 ≤ c) → sumC a ≤ c * (a.length : Int)
  | [], _ => by simp [sumC]
  | p :: r, h => by
    rw [sumC_cons, List.length_cons]
    have := h p List.mem_cons_self
    have := sum_le c (a := r) fun q hq => h q (List.mem_cons_of_mem _ hq)
    have e : c * ((r.length + 1 : Nat) : Int) = c * (r.length : Int) + c := by
      rw [Int.natCast_add, Int.mul_add]; simp
    omega
theorem cnt_some {ps : Bag} (h : ∀ p ∈ ps, 1 ≤ p.2) {p : Str × Int} (hp : p ∈ ps) : 0 < cntC ps p.1 := by
  induction ps with
  | nil => cases hp
  | cons q r ih =>
    rw [cntC_cons]
    have h0 := h q List.mem_cons_self
    have hr := cnt_pos (ps := r) (fun z hz => by have := h z (List.mem_cons_of_mem _ hz); omega) p.1
    rcases List.mem_cons.mp hp with rfl | hp
    · rw [if_pos rfl]; omega
    · have := ih (fun z hz => h z (List.mem_cons_of_mem _ hz)) hp
      split <;> omega
theorem w_catT {K : PySem.W.Frag} {H : Hp} {Q : VK} {a b : Addr} {xs ys : List V} (h1 : SqT K H a xs) (h2 : SqT K H b ys) (hz : xs.length + ys.length ≤ 100000) (h : ∀ c H', Same H H' → SqT K H' c (xs ++ ys) → Q (.ref c) H') : rCatA K (.ref a) (.ref b) H Q := by
  refine ⟨a, b, xs, ys, rfl, rfl, h1, h2, sz_le hz, fun e => ?_, fun _ e => ?_, fun _ _ p hp => ?_⟩
  · subst e; exact h b H (Same.refl _) h2
  · subst e; exact h a H (Same.refl _) (by rw [List.append_nil]; exact h1)
  · exact h p _ (same_new hp) (SqT.of upd_same)
theorem w_stepT2 {K : PySem.W.Frag} {c : Int} {σ : L2.St} {H : Hp} {Q : VK} {te : TE} (h : te σ H fun x H1 => StepC K c x H1 Q) : tStepT K c te σ H Q := h
theorem ord_of {ps : Bag} {ws : List Str} (hm : ∀ q ∈ ps, q.1 ∈ ws) (hn : ∀ w ∈ ws, isName w = true) (hp : ∀ q ∈ ps, 1 ≤ q.2) (hl : ps.length ≤ 1000) (hw : ws.length ≤ 12) : OrdOk ps :=
  ⟨fun p h => hn _ (hm p h), hp, hl, Nat.le_trans (namesOf_sub fun x hx => by obtain ⟨q, hq, e⟩ := List.mem_map.mp hx; rw [← e]; exact hm q hq) hw⟩
end TP

namespace TP
open PySem PySem.Spec PyProof.Rows L2
section
variable {P : Program} {w : World} {K : PySem.W.Frag} {mg : Str → Option Value} {base : Heap} {CX : CXT} {k j : Nat} {C m q : Str} {st : Stmt} {dvs : List V} {N ps : List Str} {sp sp' : Sp}
end
section
variable {X : Cx} {CX : CXT} {k n : Nat} {f : Addr} {fd : FuncData} {C m q : Str} {st : Stmt} {dvs : List V} {ps ks : List Str} {js : List Nat} {sp : Sp} {E : XK} {p pos apos : Pos} {e o : Expr} {es : List Expr} {kws : List Keyword} {ta : TE} {t tk : TA} {fs : List Str} {g : List Value → List Value → List Value} {gV : List V → List V → List V}
end
section
variable {K : PySem.W.Frag} {mg : Str → Option Value} {C f m : Str} {fs : List Str} {σ : L2.St} {H : Hp} {Q : VK} {ta tv : TE} {t tk : TA} {a dx : Addr} {fl : List (Str × V)} {v y : V} {De : Ends}
theorem w_fldN (h : ta σ H fun x H1 => FldC K f x H1 Q) : tFld K ta f σ H Q := h
theorem w_sfld (h : tv σ H fun y H1 => ta σ H1 fun x H2 => SetC K f x y H2 fun H3 => De.nx σ H3) : sFld K ta tv f De σ H := h
theorem w_lenC {n k : Nat} {vs zs : List V} {P : Prop} (h1 : vs.length = n) (h2 : zs.length = k) (h : P) : LenC n k vs zs P := ⟨h1, h2, h⟩
theorem w_mtN {C : Addr} {sp : Sp} {n k : Nat} {js : List Nat} {dvs : List V} {E : XK} (h : ta σ H fun x H1 => MtC C m x H1 (t σ H1 fun vs H2 => tk σ H2 fun zs H3 => LenC n k vs zs (sp (pick js ((x :: vs) ++ zs ++ dvs)) H3 Q E))) : tMtN C m sp n k js dvs E ta t tk σ H Q := h
theorem w_mkN {C : Addr} {sp : Sp} {n k : Nat} {js : List Nat} {dvs : List V} {E : XK} (h : t σ H fun vs H1 => tk σ H1 fun zs H2 => LenC n k vs zs (MkG C sp js dvs vs zs H2 Q E)) : tMkN C sp n k js dvs E t tk σ H Q := h
end
end TP

namespace TP
open PySem PySem.Spec PyProof.Rows L2
section
variable {K : PySem.W.Frag} {σ : L2.St} {H H1 : Hp} {Q : VK} {te td ty tx : TE} {a d : Addr} {kvs : List (Key × V)} {v : V} {R : It → Hp → Prop} {wi : TI} {g : TG} {tt : TT} {tk tv : TE} {vs : List Nat} {t : TE} {ts tb : TS} {De : Ends} {od : Obj} {D : Addr} {c : TT}
theorem w_din (h : ty σ H fun y H1 => td σ H1 fun x H2 => DInC x y H2 fun b => Q (.bl b) H2) : tDIn ty td σ H Q := by
  show ty σ H _
  exact h
theorem w_dnotin (h : ty σ H fun y H1 => td σ H1 fun x H2 => DInC x y H2 fun b => Q (.bl (!b)) H2) : tDNotIn ty td σ H Q := by
  show ty σ H _
  exact h
theorem w_iKeys (h : td σ H (OnK R)) : iKeys td σ H R := h
theorem w_dc (h : wi σ H fun J H1 => ∀ D, H1 D = none → DcOk J g tt tk tv vs σ H1 D Q) : tDc wi g tt tk tv vs σ H Q := h
theorem w_whc {m : Nat} {Pv : Nat → L2.St → Hp → Prop} (h : tb { De with nx := fun σ' H' => ∃ m', m' < m ∧ Pv m' σ' H', ct := fun σ' H' => ∃ m', m' < m ∧ Pv m' σ' H', bk := De.nx } σ H) : WhC m Pv tb De σ H := ⟨_, fun _ _ h => h, h⟩
end
theorem posI_of {i : Int} (h : 0 ≤ i) : posI i = i := by unfold posI; split <;> omega
end TP

namespace TP
open PySem PySem.Spec PyProof.Rows L2
section
variable {K : PySem.W.Frag} {mg : Str → Option Value} {H H' : Hp} {Q : VK} {v : V} {c : Int} {ps : Bag}
end
theorem k_repT {X : Cx} (K : PySem.W.Frag) (h : X.K = K := by rfl) : OpR X (binaryOp .Mult) (rRepT K) := by subst h; exact op_repT
theorem sum_lit {ps : Bag} {c : Int} {n : Nat} (h : ∀ p ∈ ps, p.2 ≤ c) (h0 : 0 ≤ c) (hl : ps.length ≤ n) : sumC ps ≤ c * n := by
  have h1 := sum_le c h
  have h2 : c * (ps.length : Int) ≤ c * (n : Int) := Int.mul_le_mul_of_nonneg_left (by omega) h0
  omega
end TP

namespace TP
open PySem PySem.Spec PyProof.Rows L2
section
variable {K : PySem.W.Frag} {σ : L2.St} {H : Hp} {Q : VK} {t tk : TA} {a : Addr}
theorem w_ckw {r : List V → List V → Hp → VK → Prop} (h : t σ H fun vs H1 => tk σ H1 fun zs H2 => r vs zs H2 Q) : tCKw r t tk σ H Q := h
end
theorem tab_ok {ps : Bag} (h : ∀ p ∈ ps, 1 ≤ p.2) : TabOk (tabOf ps) := by
  have nd : (keys (tabOf ps)).Nodup := by show ((tabOf ps).map (·.1)).Nodup; rw [tabOf_keys]; exact namesOf_nodup _
  refine ⟨nd, fun p hp => ?_⟩
  have e := getT_mem nd hp
  rw [getT_tabOf] at e
  have hk : p.1 ∈ keys (tabOf ps) := List.mem_map.mpr ⟨p, hp, rfl⟩
  have hk2 : p.1 ∈ ps.map (·.1) := by
    have : p.1 ∈ (tabOf ps).map (·.1) := hk
    rw [tabOf_keys] at this
    exact namesOf_mem.mp this
  obtain ⟨q, hq, e2⟩ := List.mem_map.mp hk2
  have := cnt_some h hq
  rw [e2] at this
  omega
theorem two_shows {ps qs : Bag} (h1 : BagS ps) (h2 : BagS qs) (l1 : ps.length ≤ 2000) (l2 : qs.length ≤ 2000) : Shows (.list [bagD ps, bagD qs]) := by
  obtain ⟨i1, i2, i3⟩ := bag_shows_aux ps h1
  obtain ⟨j1, j2, j3⟩ := bag_shows_aux qs h2
  refine ⟨?_, ?_, ?_⟩
  · show (okDs (ps.map pairD) && (okDs (qs.map pairD) && true)) = true
    rw [i1, j1]; rfl
  · show ((rbs (ps.map pairD) + 3) + 2 + ((rbs (qs.map pairD) + 3) + 2 + 0)) + 2 ≤ _
    omega
  · show max (PyData.depthAll (ps.map pairD) + 1) (max (PyData.depthAll (qs.map pairD) + 1) 0) + 1 ≤ 60
    omega
end TP

namespace TP
open PySem PySem.Spec PyProof.Rows L2
theorem getT_no {t : Bag} {n : Str} (h : n ∉ keys t) : getT t n = 0 := getT_out fun q hq eq => h (List.mem_map.mpr ⟨q, hq, eq⟩)
theorem mem_keys {t : Bag} (h : TabOk t) {n : Str} : n ∈ keys t ↔ 0 < getT t n := by
  constructor
  · intro k
    obtain ⟨q, hq, rfl⟩ := List.mem_map.mp k
    rw [getT_mem h.nd hq]; have := h.pos q hq; omega
  · intro k
    refine Classical.byContradiction fun z => ?_
    rw [getT_no z] at k; omega
end TP

namespace TP
open PySem PySem.Spec PyProof.Rows L2
end TP

namespace TP
open PySem PySem.Spec PyProof.Rows L2
section
variable {K : PySem.W.Frag} {H : Hp} {Q : VK} {a l : Addr} {x : Str} {ws : List Str}
theorem w_intB {k : Bool} (h : Q (.int (if k then 1 else 0)) H) : rInt1 [.bl k] H Q := .inr ⟨k, rfl, h⟩
theorem w_rep {xs : List V} {k : Int} (h1 : H l = some (.lst xs)) (hk : -1000 ≤ k ∧ k ≤ 1000) (hz : xs.length * k.toNat ≤ 100000) (h : ∀ p, H p = none → Q (.ref p) (upd H p (.lst (List.replicate k.toNat xs).flatten))) : rRep (.ref l) (.int k) H Q := ⟨l, k, xs, rfl, rfl, h1, by omega, by omega, sz_le hz, h⟩
end
theorem ds_any {α : Type} {f : α → PyData} {ds : List PyData} {G : α → Prop} (h : ∀ (i : Nat) (d : PyData), ds[i]? = some d → ∃ p, G p ∧ d = f p) : ∃ ps : List α, ds = ps.map f ∧ (∀ p ∈ ps, G p) ∧ ps.length = ds.length := by
  induction ds with
  | nil => exact ⟨[], rfl, nofun, rfl⟩
  | cons d r ih =>
    obtain ⟨p, hp, e⟩ := h 0 d rfl
    obtain ⟨ps, e1, h1, h2⟩ := ih fun i d hd => h (i + 1) d (by simpa using hd)
    exact ⟨p :: ps, by rw [e, e1]; rfl, fun q hq => by rcases List.mem_cons.mp hq with rfl | hq; exact hp; exact h1 q hq, by simp [h2]⟩
end TP

namespace TP
open PySem PySem.Spec PyProof.Rows L2
section
variable {X : Cx} {CX : CXT} {k n : Nat} {f : Addr} {fd : FuncData} {C m q : Str} {st : Stmt} {ps : List Str} {js : List Nat} {sp : Sp} {E : XK} {fs : List Str} {g : List Value → List Value → List Value} {gV : List V → List V → List V}
end
section
variable {prog : Program} {w : World} {A : Around} {E : Value → Shared → Prop} {s : Shared} {K : PySem.W.Frag} {x C f : Addr} {ox : Obj} {od : Option Obj}
end
section
variable {X : Cx} {CX : CXT} {k n : Nat} {f : Addr} {fd : FuncData} {C m q : Str} {st : Stmt} {ps : List Str} {js : List Nat} {sp : Sp} {E : XK}
end
section
variable {X : Cx} {CX : CXT} {k n : Nat} {C q : Str} {st : Stmt} {ps : List Str} {js : List Nat} {sp : Sp} {E : XK} {fs : List Str} (K : PySem.W.Frag)
end
section
variable {K : PySem.W.Frag} {H : Hp} {Q : VK} {v w : V} {c d : Int} {ps qs : Bag} {sp : Sp} {js : List Nat} {E : XK}
end
end TP

namespace TP
open PySem PySem.Spec PyProof.Rows L2
end TP

namespace TP
open PySem PySem.Spec PyProof.Rows L2
section
variable {K : PySem.W.Frag} {σ : L2.St} {H : Hp} {Q : VK} {QS : Str → Hp → Prop} {te ta tb : TE} {ts : List TE} {acc y : Str} {i : Int}
theorem w_neBl {a b : Bool} (h : Q (.bl (!decide (a = b))) H) : rNe (.bl a) (.bl b) H Q := by
  refine ⟨rfl, ?_⟩
  have e : decide (V.bl a = V.bl b) = decide (a = b) := by
    by_cases z : a = b
    · subst z; simp
    · rw [decide_eq_false z, decide_eq_false fun q => z (V.bl.inj q)]
  rw [e]; exact h
theorem w_eqBl {a b : Bool} (h : Q (.bl (decide (a = b))) H) : rEq (.bl a) (.bl b) H Q := by
  refine ⟨rfl, ?_⟩
  have e : decide (V.bl a = V.bl b) = decide (a = b) := by
    by_cases z : a = b
    · subst z; simp
    · rw [decide_eq_false z, decide_eq_false fun q => z (V.bl.inj q)]
  rw [e]; exact h
theorem w_fmt (h : te σ H fun x H1 => FmtC x H1 Q) : tFmt te σ H Q := h
theorem w_joined (h : tJs ts Str.empty σ H fun out H1 => Q (.str out) H1) : tJoined ts σ H Q := h
theorem w_jcons (h : te σ H fun x H1 => JsC ts acc σ QS x H1) : tJs (te :: ts) acc σ H QS := h
theorem w_jnil (h : QS acc H) : tJs [] acc σ H QS := h
theorem w_strS (h : Q (.str y) H) : rStrS [.str y] H Q := ⟨y, rfl, h⟩
theorem w_orT (h : ta σ H fun x H1 => OrC K tb σ Q x H1) : tOrT K ta tb σ H Q := h
theorem w_andT (h : ta σ H fun x H1 => AndC K tb σ Q x H1) : tAndT K ta tb σ H Q := h
end
section
variable {K : PySem.W.Frag} {H : Hp} {Q : VK} {v w : V} {ps qs : Bag}
end
end TP

namespace TP
open PySem PySem.Spec PyProof.Rows L2
end TP

namespace TP
open PySem PySem.Spec PyProof.Rows L2
section
variable {prog : Program} {w : World} {A : Around} {E : Value → Shared → Prop} {s : Shared}
end
section
variable {X : Cx}
theorem PairAt.inj {h : Heap} {v : Value} {y z : Str} {i j : Int} (a : PairAt h v y i) (b : PairAt h v z j) : y = z ∧ i = j := by
  obtain ⟨b, t, u, o, n1, rfl, h1, h2, h3⟩ := a
  obtain ⟨b', t', u', o', n1', eb, h1', h2', h3'⟩ := b
  cases eb
  rw [h1] at h1'
  cases h1'
  rw [h3] at h3'
  injection h3' with e1 e2
  have e3 := congrArg (fun z : Array Value => z.toList) e1
  simp at e3
  obtain ⟨⟨ey, _⟩, ei, _⟩ := e3
  exact ⟨ey, ei⟩
end
end TP

namespace TP
open PySem PySem.Spec PyProof.Rows L2
end TP

namespace TP
open PySem PySem.Spec PyProof.Rows L2
section
variable {prog : Program} {w : World} {A : Around} {E : Value → Shared → Prop} {s : Shared} {K : PySem.W.Frag} {x C f : Addr} {ox : Obj} {od : Option Obj} {b tb : Value}
end
section
variable {X : Cx} {CX : CXT} {k n : Nat} {C q : Str} {st : Stmt} {ps : List Str} {js : List Nat} {sp : Sp} {E : XK} {fs : List Str} (K : PySem.W.Frag)
end
section
variable {K : PySem.W.Frag} {mg : Str → Option Value} {H : Hp} {Q : VK} {v w : V} {c d : Int} {ps qs : Bag} {sp : Sp} {js : List Nat} {E : XK} {neg : Bool}
end
end TP

namespace TP
open PySem PySem.Spec PyProof.Rows L2
section
open TL
end
section
variable {K : PySem.W.Frag} {H H' : Hp} {lo hi B : Int} {ms : List V}
end
end TP

namespace TP
open PySem PySem.Spec PyProof.Rows L2
section
variable {K : PySem.W.Frag} {mg : Str → Option Value} {H H' : Hp} {Q : VK} {v : V} {c : Int} {ps : Bag}
end
section
variable {K : PySem.W.Frag} {mg : Str → Option Value} {H H' : Hp} {Q : VK} {v w : V} {c d : Int} {ps qs : Bag} {sp : Sp} {js : List Nat} {E : XK} {neg : Bool}
end
theorem BagOk.init {ps : Bag} (h : BagOk ps) : BagOk ps.dropLast := by rw [List.dropLast_eq_take]; exact h.take _
end TP

namespace TP
open PySem PySem.Spec PyProof.Rows L2
section
variable {prog : Program} {w : World} {A : Around} {E : Value → Shared → Prop} {s : Shared}
end
section
variable {K : PySem.W.Frag} {H H' : Hp} {xs ys : List V}
end
end TP

namespace TP
open PySem PySem.Spec PyProof.Rows L2
end TP

namespace TP
open PySem PySem.Spec PyProof.Rows L2
section
variable {X : Cx}
end
section
variable {K : PySem.W.Frag} {H : Hp} {Q : VK} {a : Addr}
theorem w_ddel {td ty : TE} {σ : L2.St} {De : Ends} (h : td σ H fun x H1 => ty σ H1 fun y H2 => DelC x y H2 fun H3 => De.nx σ H3) : sDDel td ty De σ H := h
theorem w_daug {td ty tv : TE} {rd : V → V → Hp → VK → Prop} {σ : L2.St} {De : Ends} (h : td σ H fun x H1 => ty σ H1 fun y H2 => AugC x y tv σ rd H2 fun H5 => De.nx σ H5) : sDAug td ty tv rd De σ H := h
end
end TP

namespace TP
open PySem PySem.Spec PyProof.Rows L2
end TP

namespace TP
open PySem PySem.Spec PyProof.Rows L2
section
variable {prog : Program} {w : World} {A : Around} {E : Value → Shared → Prop} {s : Shared}
end
section
variable {X : Cx}
end
theorem w_dpop1 {td ty : TE} {σ : L2.St} {H : Hp} {Q : VK} (h : td σ H fun x H1 => ∃ a, x = .ref a ∧ IsD H1 a ∧ ty σ H1 fun y H2 => ∃ kvs k v, H2 a = some (.dK kvs) ∧ y = kV k ∧ valV kvs k = some v ∧ Q v (upd H2 a (.dK (dropK kvs k)))) : tDPop1 td ty σ H Q := h
end TP

namespace TP
open PySem PySem.Spec PyProof.Rows L2
theorem w_revL {K : PySem.W.Frag} {te : TE} {σ : L2.St} {H : Hp} {Q : VK} (h : te σ H fun x H1 => RevC K x H1 Q) : tRevL K te σ H Q := h
end TP

namespace TP
open PySem PySem.Spec PyProof.Rows L2
theorem shows_two_bl (b : Bool) : Shows (.list [.bool b, .bool b]) := ⟨by rfl, by show (5 + 2 + (5 + 2 + 0)) + 2 ≤ _; decide, by show max 0 (max 0 0) + 1 ≤ 60; decide⟩
end TP

namespace TP
open PySem PySem.Spec PyProof.Rows L2
theorem list_extend_tup (l : Addr) (items : Array Value) (n : Nat) (b : Addr) (items2 : Array Value) (n2 : Nat) (dd : Option Addr) (sl : Array (Option Value)) (hs0 : ¬(!items.isEmpty && Builtin.List.listTooLong (items.size + items2.size)) = true) (hs1 : items.size ≤ sizeLine) (hs2 : items.size + items2.size ≤ sizeLine + 1) :
    Meets (Builtin.«list.extend» ⟨[.ref l, .ref b], []⟩) (fun _ R s => s.heap.get? l = some { cls := .type "list", dict := none, data := .seq items n, slots := #[] } ∧ s.heap.get? b = some { cls := .type "tuple", dict := dd, data := .seq items2 n2, slots := sl } ∧ R (.ok (.ret Value.none)) { s with heap := s.heap.update l (Obj.mapSeq fun x => x ++ items2), toks := s.toks }) :=
  .of_wp fun prog w A R s h => by
    obtain ⟨hp, g, d, tk, os⟩ := s; obtain ⟨hl, hb, h⟩ := h; have f1 := AutoSeq1.idx_int; have f2 := AutoSeq1.sub_tuple_tuple; have f3 := AutoSeq1.sub_list_list; have f4 := AutoSeq1.sub_tuple_list; have f5 := AutoSeq1.sub_list_tuple
    have hz' : (items ++ items2).size ≤ sizeLine + 1 := by rw [Array.size_append]; exact hs2
    wp_walk using (wpAny_updateSeq hl rfl (hz := hs1) (_hz' := hz')), AutoSeq1.wpAny_loadPart' hl, AutoSeq1.wpAny_loadPart' hb
    exact ⟨_, rfl, h⟩
theorem mt_extendT {X : Cx} : MtM X "list.extend" (rExtendT X.K) := by
  intro pins s σ H x vs v us Q I rx rv h
  obtain ⟨l, b, xs, zs, rfl, rfl, hH, hB, hz, q⟩ := h
  cases rx
  obtain ⟨u, rfl, ru⟩ := rv.one
  cases ru
  obtain ⟨z, its, n, r, hl, e⟩ := I.lstM hH
  obtain ⟨its2, r2, ⟨⟨cls, dd, data, sl⟩, e2, hc, n2, hd⟩, _⟩ := I.tuple hB
  simp only at hc hd
  subst hc hd
  have hl2 := r2.length
  have hsz : its.toArray.size + its2.toArray.size ≤ sizeLine := by rw [List.size_toArray, List.size_toArray]; omega
  have hlong : ¬ (!its.toArray.isEmpty && Builtin.List.listTooLong (its.toArray.size + its2.toArray.size)) = true := by
    rw [notLongL hsz, Bool.and_false]
    exact Bool.false_ne_true
  refine call_meets F.slot_list_extend ⟨_, e, rfl⟩ F.entry_list_extend (F.args_list_extend_2 _ _)
    (list_extend_tup l its.toArray n b its2.toArray n2 dd sl hlong (by rw [List.size_toArray]; omega) (by omega)) ⟨e, e2, ?_⟩
  refine ⟨.non, _, I.lset (its' := its ++ its2) hH e (by simp) (r.append r2) ?_, rfl, q⟩
  rw [List.length_append]
  omega
theorem k_extT {X : Cx} (K : PySem.W.Frag) (h : X.K = K := by rfl) : MtM X "list.extend" (rExtendT K) := by subst h; exact mt_extendT
theorem w_extendT {K : PySem.W.Frag} {H : Hp} {Q : VK} {l b : Addr} {xs zs : List V} (h1 : H l = some (.lst xs)) (h2 : SqT K H b zs) (hz : xs.length + zs.length ≤ sizeLine) (h : Q .non (upd H l (.lst (xs ++ zs)))) : rExtendT K (.ref l) [.ref b] H Q := ⟨l, b, xs, zs, rfl, rfl, h1, h2, hz, h⟩
theorem take_flat {rss : List Bag} {i : Nat} {rs : Bag} (e : rss[i]? = some rs) : (rss.take (i + 1)).flatten = (rss.take i).flatten ++ rs := by rw [take_succ_snoc e, List.flatten_append]; simp
theorem flat_len (rss : List Bag) (i : Nat) : ((rss.take i).flatten).length ≤ (rss.map List.length).sum := by
  induction rss generalizing i with
  | nil => simp
  | cons r t ih =>
    cases i with
    | zero => simp
    | succ i => rw [List.take_succ_cons, List.flatten_cons, List.length_append, List.map_cons, List.sum_cons]; have := ih i; omega
end TP

namespace TP
open PySem PySem.Spec PyProof.Rows L2
end TP

namespace TP
open PySem PySem.Spec PyProof.Rows L2 TL
end TP

namespace TP
open PySem PySem.Spec PyProof.Rows L2
section
variable {X : Cx} {x1 x2 x3 n : Str} {c1 c2 c3 : Value} {i kk : Nat} {body suite : List Stmt} {b₀ : Stmt} {np1 np2 np3 tpos pos pos' : Pos} {tb : WX → TS} {ts : Addr → Value → Option Addr → TS} {Wout : WX}
end
end TP
namespace TPX
open PySem PySem.W PySem.Spec PySem.Calls PyProof.Rows
section
variable {prog : Program} {w : World} {A : Around} {E : Value → Shared → Prop} {s : Shared} {K : Frag} {x D : Addr} {ox : Obj} {od : Option Obj}
end
end TPX
namespace TP
open PySem PySem.Spec PyProof.Rows L2
end TP

namespace TP
open PySem PySem.Spec PyProof.Rows L2 LamX
end TP

namespace TPE
open PySem
end TPE
namespace TPE
open PySem PySem.HandSPX Builtin Builtin.ObjectAttr
section
variable {prog : Program} {w : World} {A : Around} {E : Value → Shared → Prop} {R : Result → Shared → Prop} {hp : Heap} {g : Array GenState} {d : Drawn} {t : Nat} {os : OsState}
end
end TPE
namespace TP
open PySem PySem.Spec PyProof.Rows L2
section
variable {X : Cx} {pins : List (Addr × Obj)} {σ : L2.St} {H : Hp} {s : Shared} {a C dx : Addr} {f : Str} {y : V} {u : Value} {fs : List (Str × V)} {Q : Unit → Shared → Prop} {E : Value → Shared → Prop} {A : Around}
end
section
variable {X : Cx} {o e : Expr} {es : List Expr} {to te : TE} {ta : TA} {f : Str} {p p' p1 p2 pos : Pos}
end
end TP

namespace TP
open PySem PySem.Spec PyProof.Rows L2 LamX
end TP

namespace TP
open PySem PySem.Spec PyProof.Rows L2
section
variable {K : PySem.W.Frag} {mg : Str → Option Value} {H : Hp} {Q : VK} {p : Addr × Obj} {e : ExE} {y : V} {dd : Addr}
theorem w_isP (F : ExF K mg) (he : e ∈ exTab) (h : HeldS K p H e y dd) {C : Str} (hC : C ∈ exLeaf ++ exBase) (q : Q (.bl (exIs e C)) H) : rIsP K p.1 (He.ga K e.1) dd [.ref p.1, .ref (He.ga K C)] H Q := ⟨_, _, _, _, rfl, .own _, h.2.2, F.kit e he C hC, q⟩
theorem held_same {H' : Hp} (s : Same H H') (h : HeldS K p H e y dd) : HeldS K p H' e y dd := ⟨h.1, h.2.1, s _ _ h.2.2⟩
end
end TP



namespace TP
open PySem PySem.Spec PyProof.Rows L2
/-! ### list.count of flat items -/
def rCntF (K : PySem.W.Frag) : V → List V → Hp → VK → Prop := fun x xs H Q => ∃ (a : Addr) (ys : List V) (y : V), x = .ref a ∧ xs = [y] ∧ SqL K H a ys ∧ flatV y = true ∧ ys.all flatV = true ∧ Q (.int (ys.countP (fun z => eqV z y) : Nat)) H
theorem w_allocLG {H : Hp} {Q : VK} {xs : List V} (hz : xs.length.ble 100000 = true) (h : ∀ p G, Same H G → G p = some (.lst xs) → Q (.ref p) G) : AllocL xs H Q := w_allocL hz fun p hp => h p _ (same_new hp) upd_same
/-! ### the kinds of the own errors -/
def exAt (e : ExE) : Nat := exLeaf.findIdx (exIs e)
def exBls (e : ExE) : List V := exLeaf.map fun C => V.bl (exIs e C)
def exWords : Str := "capacity name times counts summary order plan text size number slots index action line notsummary differ busy undo names actions"
end TP

namespace TP
open PySem PySem.Spec PyProof.Rows L2 LamX
/-! ### all but the code tables stay -/
theorem Same.x {H H' : Hp} (s : Same H H') : ExtN H H' := ExtN.of s
theorem sql_x {K : PySem.W.Frag} {H H' : Hp} {a : Addr} {xs : List V} (s : ExtN H H') (h : SqL K H a xs) : SqL K H' a xs := by
  rcases h with (h | ⟨o, h⟩) | h
  · exact .inl (.inl (s _ _ h nofun))
  · exact .inl (.inr ⟨o, s _ _ h nofun⟩)
  · exact .inr h
theorem sqt_x {K : PySem.W.Frag} {H H' : Hp} {a : Addr} {xs : List V} (s : ExtN H H') (h : SqT K H a xs) : SqT K H' a xs := by
  rcases h with (h | ⟨o, h⟩) | h
  · exact .inl (.inl (s _ _ h nofun))
  · exact .inl (.inr ⟨o, s _ _ h nofun⟩)
  · exact .inr h
mutual
theorem dp_x {K : PySem.W.Frag} {H H' : Hp} (s : ExtN H H') : ∀ {v : V} {d : PyData}, Dp K H v d → Dp K H' v d
  | _, _, .non => .non
  | _, _, .bl b => .bl b
  | _, _, .int i => .int i
  | _, _, .str x => .str x
  | _, _, .lst h r => .lst (sql_x s h) (dps_x s r)
  | _, _, .tup h r => .tup (sqt_x s h) (dps_x s r)
theorem dps_x {K : PySem.W.Frag} {H H' : Hp} (s : ExtN H H') : ∀ {vs : List V} {ds : List PyData}, DpAll K H vs ds → DpAll K H' vs ds
  | _, _, .nil => .nil
  | _, _, .cons h r => .cons (dp_x s h) (dps_x s r)
end
theorem dk_x {H H' : Hp} {a : Addr} {kvs : List (Key × V)} (s : ExtN H H') (h : H a = some (.dK kvs)) : H' a = some (.dK kvs) := s _ _ h nofun
section
variable {J : It} {n : Nat} {G : Hp → Prop} {Y : Nat → Hp → V → Hp → Prop} {g : TG} {te : TE} {vs : List Nat} {σ : L2.St} {H1 : Hp} {D : Addr} {Q : VK}
end
end TP

/-! a lambda handed to the def that calls it and tells what was raised (turned from HandS.Lambda: no repr is under way) -/
namespace TP
open PySem PySem.Spec PyProof.Rows L2 LamX
section
variable {X : Cx} {pins : List (Addr × Obj)} {σ : L2.St} {H HZ : Hp} {s s1 : Shared}
end
section
variable {X : Cx}
end
end TP
namespace TP
open PySem PySem.Spec PyProof.Rows L2 LamX
section
variable {P : Program} {w : World} {K : PySem.W.Frag} {mg : Str → Option Value} {base : Heap} {CX : CXT} {k : Nat} {x : Str} {st : Stmt} {N ps : List Str} {sp : Sp}
end
end TP

/-! data among which empty dicts stand -/
namespace TP
open PySem PySem.Spec PyProof.Rows L2 LamX
mutual
inductive Dx (K : PySem.W.Frag) (H : Hp) : V → PyData → Prop
  | non : Dx K H .non .none
  | bl (b : Bool) : Dx K H (.bl b) (.bool b)
  | int (i : Int) : Dx K H (.int i) (.int i)
  | str (x : Str) : Dx K H (.str x) (.str x)
  | lst {a : Addr} {xs : List V} {ds : List PyData} : SqL K H a xs → DxAll K H xs ds → Dx K H (.ref a) (.list ds)
  | tup {a : Addr} {xs : List V} {ds : List PyData} : SqT K H a xs → DxAll K H xs ds → Dx K H (.ref a) (.tuple ds)
  | dct {a : Addr} : H a = some (.dK []) → Dx K H (.ref a) (.dict [])
inductive DxAll (K : PySem.W.Frag) (H : Hp) : List V → List PyData → Prop
  | nil : DxAll K H [] []
  | cons {v : V} {vs : List V} {d : PyData} {ds : List PyData} : Dx K H v d → DxAll K H vs ds → DxAll K H (v :: vs) (d :: ds)
end
mutual
theorem dp_dx {K : PySem.W.Frag} {H : Hp} : ∀ {v : V} {d : PyData}, Dp K H v d → Dx K H v d
  | _, _, .non => .non
  | _, _, .bl b => .bl b
  | _, _, .int i => .int i
  | _, _, .str x => .str x
  | _, _, .lst h r => .lst h (dps_dx r)
  | _, _, .tup h r => .tup h (dps_dx r)
theorem dps_dx {K : PySem.W.Frag} {H : Hp} : ∀ {vs : List V} {ds : List PyData}, DpAll K H vs ds → DxAll K H vs ds
  | _, _, .nil => .nil
  | _, _, .cons h r => .cons (dp_dx h) (dps_dx r)
end
mutual
theorem dx_x {K : PySem.W.Frag} {H H' : Hp} (s : ExtN H H') : ∀ {v : V} {d : PyData}, Dx K H v d → Dx K H' v d
  | _, _, .non => .non
  | _, _, .bl b => .bl b
  | _, _, .int i => .int i
  | _, _, .str x => .str x
  | _, _, .lst h r => .lst (sql_x s h) (dxs_x s r)
  | _, _, .tup h r => .tup (sqt_x s h) (dxs_x s r)
  | _, _, .dct h => .dct (dk_x s h)
theorem dxs_x {K : PySem.W.Frag} {H H' : Hp} (s : ExtN H H') : ∀ {vs : List V} {ds : List PyData}, DxAll K H vs ds → DxAll K H' vs ds
  | _, _, .nil => .nil
  | _, _, .cons h r => .cons (dx_x s h) (dxs_x s r)
end
theorem dx_same {K : PySem.W.Frag} {H H' : Hp} (s : Same H H') {v : V} {d : PyData} (h : Dx K H v d) : Dx K H' v d := dx_x (ExtN.of s) h
theorem dxs_same {K : PySem.W.Frag} {H H' : Hp} (s : Same H H') {vs : List V} {ds : List PyData} (h : DxAll K H vs ds) : DxAll K H' vs ds := dxs_x (ExtN.of s) h
section
variable {K : PySem.W.Frag} {H : Hp}
theorem dxs_len : ∀ {vs : List V} {ds : List PyData}, DxAll K H vs ds → vs.length = ds.length
  | _, _, .nil => rfl
  | _, _, .cons _ r => by rw [List.length_cons, List.length_cons, dxs_len r]
theorem dxs_get : ∀ {vs : List V} {ds : List PyData} {i : Nat} {v : V}, DxAll K H vs ds → vs[i]? = some v → ∃ d, ds[i]? = some d ∧ Dx K H v d
  | _, _, i, _, .nil, e => by simp at e
  | _, _, 0, _, .cons h _, e => by simp at e; subst e; exact ⟨_, rfl, h⟩
  | _, _, i + 1, v, .cons _ r, e => by
    obtain ⟨d, h1, h2⟩ := dxs_get (i := i) r (by simpa using e)
    exact ⟨d, by simpa using h1, h2⟩
theorem dxs_app : ∀ {vs ws : List V} {ds es : List PyData}, DxAll K H vs ds → DxAll K H ws es → DxAll K H (vs ++ ws) (ds ++ es)
  | _, _, _, _, .nil, h => h
  | _, _, _, _, .cons a r, h => .cons a (dxs_app r h)
theorem dxs_take : ∀ {vs : List V} {ds : List PyData} (n : Nat), DxAll K H vs ds → DxAll K H (vs.take n) (ds.take n)
  | _, _, 0, _ => by simp; exact .nil
  | _, _, n + 1, .nil => by simp; exact .nil
  | _, _, n + 1, .cons h r => by simp; exact .cons h (dxs_take n r)
theorem dxs_drop : ∀ {vs : List V} {ds : List PyData} (n : Nat), DxAll K H vs ds → DxAll K H (vs.drop n) (ds.drop n)
  | _, _, 0, h => by simpa using h
  | _, _, n + 1, .nil => by simp; exact .nil
  | _, _, n + 1, .cons _ r => by simp; exact dxs_drop n r
theorem dx_int_inv {v : V} {i : Int} (h : Dx K H v (.int i)) : v = .int i := by cases h; rfl
theorem dx_str_inv {v : V} {x : Str} (h : Dx K H v (.str x)) : v = .str x := by cases h; rfl
theorem dx_tup_inv {v : V} {ds : List PyData} (h : Dx K H v (.tuple ds)) : ∃ a xs, v = .ref a ∧ SqT K H a xs ∧ DxAll K H xs ds := by cases h with | tup h r => exact ⟨_, _, rfl, h, r⟩
theorem ty_dx {v : V} {d : PyData} (h : Dx K H v d) : TyX K H v (.type (tyD d)) := by
  cases h with
  | non => exact .base .non
  | bl b => exact .base (.bl b)
  | int i => exact .base (.int i)
  | str x => exact .base (.str x)
  | lst h _ =>
    rcases h with (h | ⟨o, h⟩) | ⟨o, its, n, h, c, _⟩
    · exact .base (.lst h)
    · exact .base (.frz h)
    · exact .kList h c
  | tup h _ =>
    rcases h with (h | ⟨o, h⟩) | ⟨o, its, n, h, c, _⟩
    · exact .base (.tup h)
    · exact .fTuple h
    · exact .kTuple h c
  | dct h => exact .base (.dK h)
theorem w_isiX {Q : VK} {v : V} {d : PyData} {T : String} {b : Bool} (h : Dx K H v d) (e : kitB (tyD d) T = some b) (q : Q (.bl b) H) : rIsi K [v, .ty T] H Q := w_isi (ty_dx h) e q
end
/-! ### lists alone are changed -/
def SameM (H H' : Hp) : Prop := ∀ a o, H a = some o → (∀ xs, o ≠ .lst xs) → H' a = some o
theorem SameM.lst {H : Hp} {l : Addr} {xs : List V} {u : HO} (h : H l = some (.lst xs)) : SameM H (upd H l u) := fun a o e n => by
  by_cases z : a = l
  · subst z; rw [h] at e; cases e; exact absurd rfl (n xs)
  · rw [upd_ne z]; exact e
theorem SameM.sqt {K : PySem.W.Frag} {H H' : Hp} {a : Addr} {xs : List V} (s : SameM H H') (h : SqT K H a xs) : SqT K H' a xs := by
  rcases h with (h | ⟨o, h⟩) | h
  · exact .inl (.inl (s _ _ h nofun))
  · exact .inl (.inr ⟨o, s _ _ h nofun⟩)
  · exact .inr h
mutual
/-- no list stands in it -/
def noL : PyData → Bool
  | .list _ => false
  | .tuple ds => noLs ds
  | _ => true
def noLs : List PyData → Bool
  | [] => true
  | d :: r => noL d && noLs r
end
mutual
theorem dx_m {K : PySem.W.Frag} {H H' : Hp} (s : SameM H H') : ∀ {v : V} {d : PyData}, Dx K H v d → noL d = true → Dx K H' v d
  | _, _, .non, _ => .non
  | _, _, .bl b, _ => .bl b
  | _, _, .int i, _ => .int i
  | _, _, .str x, _ => .str x
  | _, _, .lst h r, f => by simp [noL] at f
  | _, _, .tup h r, f => .tup (s.sqt h) (dxs_m s r (by simpa [noL] using f))
  | _, _, .dct h, _ => .dct (s _ _ h nofun)
theorem dxs_m {K : PySem.W.Frag} {H H' : Hp} (s : SameM H H') : ∀ {vs : List V} {ds : List PyData}, DxAll K H vs ds → noLs ds = true → DxAll K H' vs ds
  | _, _, .nil, _ => .nil
  | _, _, .cons h r, f => by
    have f2 := Bool.and_eq_true_iff.mp (show (noL _ && noLs _) = true from f)
    exact .cons (dx_m s h f2.1) (dxs_m s r f2.2)
end
/-! ### what they show -/
mutual
/-- a bound of the shown text -/
def rbX : PyData → Nat
  | .none => 5
  | .bool _ => 5
  | .int _ => 1921
  | .str x => 10 * x.length + 2
  | .list ds => rbXs ds + 2
  | .tuple ds => rbXs ds + 3
  | .dict _ => 2
def rbXs : List PyData → Nat
  | [] => 0
  | d :: r => rbX d + 2 + rbXs r
end
mutual
def okX : PyData → Bool
  | .none => true
  | .bool _ => true
  | .int i => decide (i.natAbs.log2 < 1920)
  | .str x => x.cps.toList.all fun c => decide (c < 16 ^ 8)
  | .list ds => okXs ds
  | .tuple ds => okXs ds
  | .dict kvs => kvs.isEmpty
def okXs : List PyData → Bool
  | [] => true
  | d :: r => okX d && okXs r
end
mutual
theorem shown_leX : ∀ d : PyData, okX d = true → d.shown.length ≤ rbX d
  | .none, _ => by simp only [PyData.shown, rbX]; decide
  | .bool b, _ => by cases b <;> simp only [PyData.shown, rbX] <;> decide
  | .int i, h => by
    have h' : i.natAbs.log2 < 1920 := of_decide_eq_true (by simpa [okX] using h)
    simp only [PyData.shown, rbX]
    exact int_text_len_1921 h'
  | .str x, h => by
    simp only [PyData.shown, rbX]
    refine PySem.StrLaws.reprText_len x fun c hc => ?_
    have h' := List.all_eq_true.mp (by simpa only [okX] using h) c hc
    exact of_decide_eq_true h'
  | .list ds, h => by
    have ih := shownAll_leX ds (by simpa [okX] using h)
    simp only [PyData.shown, rbX, listText]
    have h1 := textFrom_le (PyData.shownAll ds) 0 "["
    rw [str_app_len]
    have e1 : (Str.ofString "[").length = 1 := by decide
    have e2 : (Str.ofString "]").length = 1 := by decide
    rw [e1] at h1
    rw [e2]
    omega
  | .tuple ds, h => by
    have ih := shownAll_leX ds (by simpa [okX] using h)
    simp only [PyData.shown, rbX, tupleText]
    rw [str_app_len, str_app_len]
    have h1 := StrLaws.join_length_le (Str.ofString ", ") (PyData.shownAll ds)
    have e0 : (Str.ofString ", ").length = 2 := by decide
    rw [e0] at h1
    have e1 : (Str.ofString "(").length = 1 := by decide
    have e2 : (Str.ofString (if ((PyData.shownAll ds).length == 1) = true then ",)" else ")")).length ≤ 2 := by
      by_cases z : ((PyData.shownAll ds).length == 1) = true
      · rw [if_pos z]; decide
      · rw [if_neg z]; decide
    have e3 : ((PyData.shownAll ds).map fun t => t.length + 2).sum = ((PyData.shownAll ds).map (·.length)).sum + (PyData.shownAll ds).length * 2 := by
      generalize PyData.shownAll ds = l
      induction l with
      | nil => rfl
      | cons a r ih2 => simp only [List.map_cons, List.sum_cons, List.length_cons]; omega
    rw [e1]
    omega
  | .dict [], _ => by simp only [PyData.shown, rbX]; decide
  | .dict (_ :: _), h => by simp [okX] at h
theorem shownAll_leX : ∀ ds : List PyData, okXs ds = true → ((PyData.shownAll ds).map fun t => t.length + 2).sum ≤ rbXs ds
  | [], _ => by simp [PyData.shownAll, rbXs]
  | d :: r, h => by
    have h' := Bool.and_eq_true_iff.mp (show (okX d && okXs r) = true from h)
    have h1 := shown_leX d h'.1
    have h2 := shownAll_leX r h'.2
    simp only [PyData.shownAll, rbXs, List.map_cons, List.sum_cons]
    omega
end
mutual
theorem showable_ofX : ∀ d : PyData, okX d = true → d.showable = true
  | .none, _ => by simp [PyData.showable]
  | .bool b, _ => by simp [PyData.showable]
  | .int i, h => by simp only [PyData.showable]; simpa [okX] using h
  | .str x, _ => by simp [PyData.showable]
  | .list ds, h => by simp only [PyData.showable]; exact showables_ofX ds (by simpa [okX] using h)
  | .tuple ds, h => by simp only [PyData.showable]; exact showables_ofX ds (by simpa [okX] using h)
  | .dict [], _ => by simp [PyData.showable, PyData.showableKv]
  | .dict (_ :: _), h => by simp [okX] at h
theorem showables_ofX : ∀ ds : List PyData, okXs ds = true → PyData.showableAll ds = true
  | [], _ => by simp [PyData.showableAll]
  | d :: r, h => by
    have h' := Bool.and_eq_true_iff.mp (show (okX d && okXs r) = true from h)
    simp [PyData.showableAll, showable_ofX d h'.1, showables_ofX r h'.2]
end
end TP
namespace TP
open PySem PySem.Spec PyProof.Rows L2 LamX
section
variable {X : Cx} {pins : List (Addr × Obj)} {σ : L2.St} {H : Hp} {s : Shared}
theorem dct_reads (I : Inv X pins σ H s) {a : Addr} (h : H a = some (.dK [])) : Reads s.heap (.ref a) (.dict []) (a :: [] ++ []) ∧ sysModules ∉ (a :: [] ++ [] : List Addr) := by
  obtain ⟨_, hsm, vs, hkv, o, es, ep, ho, hx, hd, _, hp, _⟩ := dk_of I.hok h
  have ev : vs = [] := by
    cases hkv
    rfl
  subst ev
  have ee : es.toList = [] := by
    generalize es.toList = l at hp
    cases hp
    rfl
  refine ⟨Reads.dict ho hx.1 hd (by rw [ee]; exact .nil) (by rw [ee]; exact .nil), fun hm => ?_⟩
  have hm : sysModules ∈ [a] := hm
  rw [List.mem_singleton.mp hm] at hsm
  simp at hsm
mutual
theorem Dx.reads (I : Inv X pins σ H s) : ∀ (d : PyData) (v : V) (u : Value), Dx X.K H v d → RelV v u → ∃ as, Reads s.heap u d as ∧ (noL d = true → sysModules ∉ as)
  | .none, _, _, h, r => by
    cases h
    cases r
    exact ⟨_, Reads.none, fun _ => List.not_mem_nil⟩
  | .bool b, _, _, h, r => by
    cases h
    cases r
    exact ⟨_, Reads.bool b, fun _ => List.not_mem_nil⟩
  | .int i, _, _, h, r => by
    cases h
    obtain ⟨t, rfl⟩ := r
    exact ⟨_, Reads.int i t, fun _ => List.not_mem_nil⟩
  | .str x, _, _, h, r => by
    cases h
    obtain ⟨t, rfl⟩ := r
    exact ⟨_, Reads.str x t, fun _ => List.not_mem_nil⟩
  | .list ds, _, _, h, r => by
    cases h with
    | lst hs ha =>
      cases r
      obtain ⟨its, rv, ⟨o, n, ho, hc, _, hd⟩, _⟩ := I.list hs
      obtain ⟨as, hr, _⟩ := Dx.readsAll I ds _ its ha rv
      exact ⟨_, Reads.list ho hc hd hr, fun z => by simp [noL] at z⟩
  | .tuple ds, _, _, h, r => by
    cases h with
    | tup hs ha =>
      cases r
      obtain ⟨its, rv, ⟨o, ho, hc, n, hd⟩, _⟩ := I.tuple hs
      obtain ⟨as, hr, hno⟩ := Dx.readsAll I ds _ its ha rv
      exact ⟨_, Reads.tuple ho hc hd hr, fun z => hno (by simpa [noL] using z)⟩
  | .dict _, _, _, h, r => by
    cases h with
    | dct hd =>
      cases r
      obtain ⟨h1, h2⟩ := dct_reads I hd
      exact ⟨_, h1, fun _ => h2⟩
theorem Dx.readsAll (I : Inv X pins σ H s) : ∀ (ds : List PyData) (vs : List V) (us : List Value), DxAll X.K H vs ds → Vals vs us → ∃ as, ReadsAll s.heap us ds as ∧ (noLs ds = true → sysModules ∉ as)
  | [], _, _, h, r => by
    cases h
    cases r
    exact ⟨_, ReadsAll.nil, fun _ => List.not_mem_nil⟩
  | d :: ds, _, _, h, r => by
    cases h with
    | cons h1 h2 =>
      cases r with
      | cons r1 r2 =>
        obtain ⟨as, q1, n1⟩ := Dx.reads I d _ _ h1 r1
        obtain ⟨bs, q2, n2⟩ := Dx.readsAll I ds _ _ h2 r2
        refine ⟨_, ReadsAll.cons q1 q2, fun z hm => ?_⟩
        have z2 := Bool.and_eq_true_iff.mp (show (noL d && noLs ds) = true from z)
        exact (List.mem_append.mp hm).elim (n1 z2.1) (n2 z2.2)
end
/-- where an empty dict stands in it, no list stands below its top -/
def topL (d : PyData) : Bool := !d.hasDict || match d with
  | .list ds => noLs ds
  | .tuple ds => noLs ds
  | _ => true
structure ShowsX (d : PyData) : Prop where
  ok : okX d = true
  len : rbX d ≤ 16777216
  deep : d.depth ≤ 60
  top : topL d = true
def rReprX (K : PySem.W.Frag) : List V → Hp → VK → Prop := fun xs H Q => ∃ v d, xs = [v] ∧ Dx K H v d ∧ ShowsX d ∧ Q (.str d.shown) H
theorem w_reprX {K : PySem.W.Frag} {H : Hp} {Q : VK} {v : V} {d : PyData} (h : Dx K H v d) (s : ShowsX d) (q : Q (.str d.shown) H) : rReprX K [v] H Q := ⟨v, d, rfl, h, s, q⟩
theorem showsByX (I : Inv X pins σ H s) {a : Addr} {d : PyData} (h : Dx X.K H (.ref a) d) (hk : okX d = true) (ht : topL d = true) (hsz : d.shown.length ≤ sizeLine) : ∃ T idr, ShowsBy X.prog X.w s.heap a d T idr := by
  have hs := showable_ofX d hk
  cases h with
  | lst hq ha =>
    rename_i vs xs
    obtain ⟨its, rv, ⟨o, n, h1, h2, _, h3⟩, _⟩ := I.list hq
    obtain ⟨as, h4, hno⟩ := Dx.readsAll I xs _ its ha rv
    have hz' : (listText (PyData.shownAll xs)).length ≤ sizeLine := by simpa only [PyData.shown] using hsz
    have hx0 : PyData.hasDictAll xs = true → sysModules ∉ as := fun hx => hno (by
      have z : (!(PyData.list xs).hasDict || noLs xs) = true := ht
      rw [show (PyData.list xs).hasDict = true by simpa [PyData.hasDict] using hx] at z
      simpa using z)
    have h4' : ReadsAll s.heap its.toArray.toList xs as := by simpa using h4
    obtain ⟨bs, hb, hkk⟩ := ReprAllK.of_readsAll (prog := X.prog) (w := X.w) h4' (by simpa [PyData.showable] using hs) hx0 fun t ht => Nat.le_trans (listText_mem_le ht) hz'
    have hna : a ∉ bs := not_mem_of_deeper (.list h1 h2 h3 h4') (by simp only [PyData.depth]; omega) hb
    refine ⟨"list", "list.__repr__", F.slot_list_repr.toG, F.slot_list_str, F.slot_list_format, fun s hk0 => ⟨o, hk0 _ _ h1, h2⟩, fun A E s Q hg hu hk0 hQ => ?_⟩
    simp only [PyData.depth] at hu
    simp only [PyData.shown] at hQ
    cases its with
    | nil =>
      cases h4
      simp only [PyData.shownAll, listText_nil] at hQ
      exact call_list_repr_empty ⟨o, hk0 _ _ h1, h2⟩ (hk0 _ _ h1) h3 (hQ s.heap _ _ fun _ _ e => e)
    | cons x l => exact call_list_reprK h1 h2 h3 hna (by simpa using hkk.length_eq) (fun i y e => hkk.item i y (by simpa using e)) hg (fun b _ => Clear.nil b) hu hk0 hQ hz'
  | tup hq ha =>
    rename_i vs xs
    obtain ⟨its, rv, ⟨o, h1, h2, n, h3⟩, _⟩ := I.tuple hq
    obtain ⟨as, h4, hno⟩ := Dx.readsAll I xs _ its ha rv
    have h4' : ReadsAll s.heap its.toArray.toList xs as := by simpa using h4
    refine showsBy_of_reads (Reads.tuple h1 h2 h3 h4') hs (fun hx => hno ?_) hsz
    have z : (!(PyData.tuple xs).hasDict || noLs xs) = true := ht
    rw [hx] at z
    simpa using z
  | dct hd =>
    obtain ⟨h1, h2⟩ := dct_reads I hd
    exact showsBy_of_reads h1 hs (fun _ => h2) hsz
end
theorem call_reprX {X : Cx} (hg : X.A.guards = some []) (hu : X.A.units + 64 < cLine) : CallR X (.builtin "repr") (rReprX X.K) := by
  intro pins s σ H xs us Q I r h
  obtain ⟨v, d, rfl, hd, hs, q⟩ := h
  obtain ⟨u, rfl, ru⟩ := vals1 r
  have hz : d.shown.length ≤ sizeLine := Nat.le_trans (shown_leX d hs.ok) (Nat.le_trans hs.len (by rw [sizeLine_eq]; exact Nat.le_refl _))
  have big : ∀ a, v = .ref a → wpAny (model X.prog X.w) X.A (call (.builtin "repr") [u]) (EP X pins σ Q) X.xe s := fun a e => by
    subst e
    obtain rfl : u = Value.ref a := ru
    obtain ⟨T, idr, S⟩ := showsByX I hd hs.ok hs.top hz
    refine call_repr_slot (by omega) (S.typeIs s fun _ _ e => e) S.slotRepr (S.call X.A.in1 X.xe s _ hg (by have := hs.deep; show X.A.units + 1 + d.depth < cLine; omega) (fun _ _ e => e) fun h' w' tk hk => ⟨_, _, rfl, ?_⟩)
    exact ⟨.str d.shown, H, I.kept (t' := tk) hk, ⟨_, rfl⟩, q⟩
  cases hd with
  | non =>
    have e : u = .none := ru
    subst e
    exact PySem.P.repr_of_none ⟨.str _, H, I.tok _, ⟨_, rfl⟩, q⟩
  | bl b =>
    have e : u = .bool b := ru
    subst e
    refine PySem.P.repr_of_bool ⟨.str _, H, I.tok _, ⟨_, rfl⟩, ?_⟩
    cases b <;> exact q
  | int i =>
    obtain ⟨t, rfl⟩ := ru
    refine PySem.P.repr_of_int ?_ ⟨.str _, H, I.tok _, ⟨_, rfl⟩, q⟩
    simpa [okX] using hs.ok
  | str x =>
    obtain ⟨t, rfl⟩ := ru
    exact PySem.P.repr_of_str ⟨.str _, H, I.tok _, ⟨_, rfl⟩, q⟩ hz
  | lst _ _ => exact big _ rfl
  | tup _ _ => exact big _ rfl
  | dct _ => exact big _ rfl
theorem k_reprX {X : Cx} (K : PySem.W.Frag) (hg : X.A.guards = some []) (hu : X.A.units + 64 < cLine) (h : X.K = K := by rfl) : CallR X (.builtin "repr") (rReprX K) := by subst h; exact call_reprX hg hu
end TP

/-! any value as an order -/
namespace TP
open PySem PySem.Spec PyProof.Rows L2 LamX
/-- what the error of no order tells -/
def ordV : PyData → V
  | .tuple ds => optV (firstNo ds)
  | _ => .non
/-- what is due: None, the first index that is none, -1 -/
def dueV : PyData → V
  | .tuple ds => match firstNo ds with
    | none => .int (-1)
    | some i => .int (i : Nat)
  | _ => .non
def dueD : PyData → PyData
  | .tuple ds => match firstNo ds with
    | none => .none
    | some i => .int (i : Nat)
  | _ => .none
theorem run_pair {d : PyData} (h : runD d = true) : ∃ p : Str × Int, d = pairD p ∧ isName p.1 = true ∧ 1 ≤ p.2 := by
  unfold runD at h
  split at h
  · rename_i a b
    rw [Bool.and_eq_true] at h
    obtain ⟨h1, h2⟩ := h
    cases a with
    | str x =>
      cases b with
      | int i => exact ⟨(x, i), rfl, h1, of_decide_eq_true h2⟩
      | _ => cases h2
    | _ => cases h1
  · cases h
theorem runs_of : ∀ {ds : List PyData}, (∀ d ∈ ds, runD d = true) → ∃ ps : Bag, ds = ps.map pairD ∧ ∀ p ∈ ps, isName p.1 = true ∧ 1 ≤ p.2
  | [], _ => ⟨[], rfl, nofun⟩
  | d :: ds, h => by
    obtain ⟨p, rfl, h1, h2⟩ := run_pair (h d List.mem_cons_self)
    obtain ⟨ps, rfl, h3⟩ := runs_of fun d hd => h d (List.mem_cons_of_mem _ hd)
    refine ⟨p :: ps, rfl, fun q hq => ?_⟩
    rcases List.mem_cons.mp hq with rfl | hq
    · exact ⟨h1, h2⟩
    · exact h3 q hq
theorem ord_inv {d : PyData} (h : orderD d = true) : ∃ ps : Bag, d = bagD ps ∧ OrdOk ps := by
  cases d with
  | tuple ds =>
    have h : (firstNo ds).isNone = true := h
    have h0 := Option.isNone_iff_eq_none.mp h
    unfold firstNo at h0
    rw [List.find?_eq_none] at h0
    have hi : ∀ i, i < ds.length → noOrdAt ds i = false := fun i hi => by
      have := h0 i (List.mem_range.mpr hi)
      cases z : noOrdAt ds i
      · rfl
      · exact absurd z this
    have hr : ∀ i (hl : i < ds.length), i < 1000 ∧ runD ds[i] = true ∧ (namesOf ((ds.take (i + 1)).map nmD)).length ≤ 12 := fun i hl => by
      have := hi i hl
      unfold noOrdAt at this
      rw [Bool.or_eq_false_iff, Bool.or_eq_false_iff] at this
      obtain ⟨a, b, c⟩ := this
      have e : ds.getD i .none = ds[i] := by simp [List.getD, hl]
      rw [e] at b
      refine ⟨by have := of_decide_eq_false a; omega, by simpa using b, by have := of_decide_eq_false c; omega⟩
    obtain ⟨ps, rfl, hps⟩ : ∃ ps : Bag, ds = ps.map pairD ∧ ∀ p ∈ ps, isName p.1 = true ∧ 1 ≤ p.2 := by
      refine runs_of fun d hd => ?_
      obtain ⟨i, hl, rfl⟩ := List.mem_iff_getElem.mp hd
      exact (hr i hl).2.1
    refine ⟨ps, rfl, fun p hp => (hps p hp).1, fun p hp => (hps p hp).2, ?_, ?_⟩
    · by_cases z : ps.length = 0
      · omega
      · have := (hr (ps.length - 1) (by rw [List.length_map]; omega)).1
        omega
    · by_cases z : ps.length = 0
      · rw [List.length_eq_zero_iff.mp z]; decide
      · have := (hr (ps.length - 1) (by rw [List.length_map]; omega)).2.2
        rw [List.take_of_length_le (by rw [List.length_map]; omega), nmD_map] at this
        exact this
  | _ => cases h
/-- data without dicts -/
theorem dx_bag {K : PySem.W.Frag} {H : Hp} {v : V} {ps : Bag} (h : Dx K H v (bagD ps)) : Dp K H v (bagD ps) := by
  obtain ⟨a, xs, rfl, hs, hx⟩ := dx_tup_inv h
  refine .tup hs ?_
  clear hs h
  induction ps generalizing xs with
  | nil => cases hx; exact .nil
  | cons p ps ih =>
    cases hx with
    | cons r hx =>
      obtain ⟨b, ys, rfl, hb, hy⟩ := dx_tup_inv r
      refine .cons (.tup hb ?_) (ih _ hx)
      cases hy with
      | cons r0 hy =>
      cases hy with
      | cons r1 hy =>
      cases hy
      cases dx_str_inv r0
      cases dx_int_inv r1
      exact .cons (.str _) (.cons (.int _) .nil)
/-- an element that may stand in an order: texts not too long, a pair's number not too great -/
def smallE (d : PyData) : Bool := szD d && match d with
  | .tuple [.str _, .int i] => decide (i ≤ 10 ^ 100)
  | _ => true
/-- a value that is asked as an order -/
structure OddD (d : PyData) : Prop where
  sz : szD d = true
  len : ∀ ds, d = .tuple ds → ds.length ≤ 5000
  big : ∀ ps : Bag, d = bagD ps → ∀ p ∈ ps, p.2 ≤ 10 ^ 100
theorem szDs_all : ∀ {ds : List PyData}, (∀ d ∈ ds, szD d = true) → szDs ds = true
  | [], _ => rfl
  | d :: ds, h => by
    show (szD d && szDs ds) = true
    rw [h d List.mem_cons_self, szDs_all fun e he => h e (List.mem_cons_of_mem _ he)]; rfl
end TP

/-! literals: a reading that gives data -/
namespace TP
open PySem PySem.Spec PyProof.Rows L2 LamX
/-- from H on, the reading gives the data d -/
def GivesD (K : PySem.W.Frag) (σ : L2.St) (H : Hp) (te : TE) (d : PyData) : Prop := ∀ H0, Same H H0 → ∀ Q : VK, (∀ v H', Same H0 H' → Dx K H' v d → Q v H') → te σ H0 Q
def GivesA (K : PySem.W.Frag) (σ : L2.St) (H : Hp) (tr : TA) (ds : List PyData) : Prop := ∀ H0, Same H H0 → ∀ Q : List V → Hp → Prop, (∀ vs H', Same H0 H' → DxAll K H' vs ds → Q vs H') → tr σ H0 Q
/-- .. a list of its own -/
def GivesL (K : PySem.W.Frag) (σ : L2.St) (H : Hp) (te : TE) (ds : List PyData) : Prop := ∀ H0, Same H H0 → ∀ Q : VK, (∀ l xs H', Same H0 H' → H' l = some (.lst xs) → DxAll K H' xs ds → Q (.ref l) H') → te σ H0 Q
section
variable {K : PySem.W.Frag} {σ : L2.St} {H : Hp} {te : TE} {tr : TA} {d : PyData} {ds es : List PyData}
theorem gd_int {i : Int} : GivesD K σ H (tC (.int i)) (.int i) := fun H0 _ Q h => h _ _ (Same.refl _) (.int i)
theorem gd_neg {i : Int} : GivesD K σ H (tUn (rU fun i => .int (-i)) (tC (.int i))) (.int (-i)) := fun H0 _ Q h => ⟨i, rfl, h _ _ (Same.refl _) (.int _)⟩
theorem gd_str {x : Str} : GivesD K σ H (tC (.str x)) (.str x) := fun H0 _ Q h => h _ _ (Same.refl _) (.str x)
theorem gd_bl {b : Bool} : GivesD K σ H (tC (.bl b)) (.bool b) := fun H0 _ Q h => h _ _ (Same.refl _) (.bl b)
theorem gd_non : GivesD K σ H (tC .non) .none := fun H0 _ Q h => h _ _ (Same.refl _) .non
theorem gd_var {i : Nat} {v : V} (e : σ[i]? = some (some v)) (hd : Dx K H v d) : GivesD K σ H (tVar i) d := fun H0 s Q h => ⟨v, e, h v H0 (Same.refl _) (dx_same s hd)⟩
theorem gd_dct : GivesD K σ H tDNewK (.dict []) := fun H0 _ Q h p hp => h _ _ (same_new hp) (.dct upd_same)
theorem gd_pow {i j : Int} (h : CPow i j) : GivesD K σ H (tOp (rI CPow fun i j => .int (i ^ j.toNat)) (tC (.int i)) (tC (.int j))) (.int (i ^ j.toNat)) := fun H0 _ Q k => ⟨i, j, rfl, rfl, h, k _ _ (Same.refl _) (.int _)⟩
theorem ga_nil : GivesA K σ H tNil [] := fun H0 _ Q h => h _ _ (Same.refl _) .nil
theorem ga_cons (h1 : GivesD K σ H te d) (h2 : GivesA K σ H tr ds) : GivesA K σ H (tCons te tr) (d :: ds) := fun H0 s Q h =>
  h1 H0 s _ fun v H1 s1 hv => h2 H1 (s.trans s1) _ fun vs H2 s2 hvs => h _ _ (s1.trans s2) (.cons (dx_same s2 hv) hvs)
theorem gd_tup (h : GivesA K σ H tr ds) (hl : ds.length.ble 100000 = true) : GivesD K σ H (tTup tr) (.tuple ds) := fun H0 s Q k =>
  h H0 s _ fun vs H1 s1 hvs => ⟨by rw [dxs_len hvs]; exact sz_le (Nat.le_of_ble_eq_true hl), fun p hp => k _ _ (s1.trans (same_new hp)) (.tup (SqT.of upd_same) (dxs_same (same_new hp) hvs))⟩
theorem gl_lst (h : GivesA K σ H tr ds) (hl : ds.length.ble 100000 = true) : GivesL K σ H (tLst tr) ds := fun H0 s Q k =>
  h H0 s _ fun vs H1 s1 hvs => ⟨by rw [dxs_len hvs]; exact sz_le (Nat.le_of_ble_eq_true hl), fun p hp => k _ _ _ (s1.trans (same_new hp)) upd_same (dxs_same (same_new hp) hvs)⟩
theorem gl_d (h : GivesL K σ H te ds) : GivesD K σ H te (.list ds) := fun H0 s Q k => h H0 s Q fun l xs H' s' hl hx => k _ _ s' (.lst (SqL.of hl) hx)
theorem gl_var {i : Nat} {l : Addr} {xs : List V} (e : σ[i]? = some (some (.ref l))) (hl : H l = some (.lst xs)) (hd : DxAll K H xs ds) : GivesL K σ H (tVar i) ds := fun H0 s Q h => ⟨.ref l, e, h l xs H0 (Same.refl _) (s _ _ hl) (dxs_same s hd)⟩
theorem gl_cat {ta tb : TE} (h1 : GivesL K σ H ta ds) (h2 : GivesL K σ H tb es) (hl : (ds.length + es.length).ble 100000 = true) : GivesL K σ H (tOp rCat ta tb) (ds ++ es) := fun H0 s Q k =>
  h1 H0 s _ fun l xs H1 s1 hl1 hx1 => h2 H1 (s.trans s1) _ fun b ys H2 s2 hb hy => ⟨l, b, xs, ys, rfl, rfl, s2 _ _ hl1, hb, by
    rw [dxs_len hx1, dxs_len hy]; exact sz_le (Nat.le_of_ble_eq_true hl), fun p hp => k p _ _ ((s1.trans s2).trans (same_new hp)) upd_same (dxs_same (same_new hp) (dxs_app (dxs_same s2 hx1) hy))⟩
/-- a statement x = literal -/
theorem gd_asg {g : TG} {u : TS} {De : Ends} (h : GivesD K σ H te d) (k : ∀ v H', Same H H' → Dx K H' v d → g v σ H' (u De)) : tSeq (tAsg te g) u De σ H := h H (Same.refl _) _ k
theorem gl_asg {g : TG} {u : TS} {De : Ends} (h : GivesL K σ H te ds) (k : ∀ l xs H', Same H H' → H' l = some (.lst xs) → DxAll K H' xs ds → g (.ref l) σ H' (u De)) : tSeq (tAsg te g) u De σ H := h H (Same.refl _) _ k
end
theorem cut_mem {α : Type} {ds : List α} {lo hi : Option Int} : ∀ d ∈ cutL ds lo hi, d ∈ ds := fun d hd => by
  unfold cutL at hd
  exact List.mem_of_mem_drop (List.mem_of_mem_take hd)
theorem cutL_len {α : Type} (ds : List α) (lo hi : Option Int) : (cutL ds lo hi).length ≤ ds.length := by
  unfold cutL
  rw [List.length_take, List.length_drop]
  omega
theorem dxs_rep {K : PySem.W.Frag} {H : Hp} {xs : List V} {ds : List PyData} (h : DxAll K H xs ds) : ∀ n : Nat, DxAll K H (List.replicate n xs).flatten (List.replicate n ds).flatten
  | 0 => .nil
  | n + 1 => by
    rw [List.replicate_succ, List.replicate_succ, List.flatten_cons, List.flatten_cons]
    exact dxs_app h (dxs_rep h n)
theorem w_slX {K : PySem.W.Frag} {H : Hp} {Q : VK} {v : V} {ds : List PyData} {lo hi : Option Int} (h : Dx K H v (.tuple ds)) (k : ∀ v' H', Same H H' → Dx K H' v' (.tuple (cutL ds lo hi)) → Q v' H') : rSlA K v lo hi H Q := by
  obtain ⟨a, xs, rfl, hs, hx⟩ := dx_tup_inv h
  have hl := dxs_len hx
  refine ⟨a, xs, rfl, hs, fun e => ?_, fun _ p hp => ?_⟩
  · refine k _ _ (Same.refl _) ?_
    have : cutL ds lo hi = ds := by
      unfold cutL
      rw [← hl, e.1, e.2, hl]
      simp
    rw [this]; exact h
  · refine k _ _ (same_new hp) (.tup (SqT.of upd_same) (dxs_same (same_new hp) ?_))
    unfold cutL cutV
    rw [hl]
    exact dxs_take _ (dxs_drop _ hx)
theorem w_repX {K : PySem.W.Frag} {H : Hp} {Q : VK} {v : V} {ds : List PyData} {n : Nat} (h : Dx K H v (.tuple ds)) (h0 : ds ≠ []) (h1 : 2 ≤ n) (h2 : n ≤ 1000) (h3 : ds.length ≤ 1000) (k : ∀ v' H', Same H H' → Dx K H' v' (.tuple (List.replicate n ds).flatten) → Q v' H') : rRepT K v (.int (n : Nat)) H Q := by
  obtain ⟨a, xs, rfl, hs, hx⟩ := dx_tup_inv h
  have hl := dxs_len hx
  refine ⟨a, _, xs, rfl, rfl, hs, ?_, by omega, by omega, by omega, fun p hp => ?_⟩
  · intro e
    rw [e] at hl
    exact h0 (List.eq_nil_of_length_eq_zero hl.symm)
  · refine k _ _ (same_new hp) (.tup (SqT.of upd_same) ?_)
    exact dxs_same (same_new hp) (dxs_rep hx n)
theorem w_catX {K : PySem.W.Frag} {H : Hp} {Q : VK} {v w : V} {ds es : List PyData} (h1 : Dx K H v (.tuple ds)) (h2 : Dx K H w (.tuple es)) (hz : ds.length + es.length ≤ 100000) (h : ∀ c H', Same H H' → Dx K H' c (.tuple (ds ++ es)) → Q c H') : rCatA K v w H Q := by
  obtain ⟨a, xs, rfl, hs, hx⟩ := dx_tup_inv h1
  obtain ⟨b, ys, rfl, ht, hy⟩ := dx_tup_inv h2
  exact w_catT hs ht (by rw [dxs_len hx, dxs_len hy]; exact hz) fun c H' s hc => h _ _ s (.tup hc (dxs_app (dxs_same s hx) (dxs_same s hy)))
section
variable {K : PySem.W.Frag} {σ : L2.St} {H : Hp} {ta tb : TE} {ds es : List PyData}
theorem gd_catT (h1 : GivesD K σ H ta (.tuple ds)) (h2 : GivesD K σ H tb (.tuple es)) (hz : ds.length + es.length ≤ 100000) : GivesD K σ H (tOp (rCatA K) ta tb) (.tuple (ds ++ es)) := fun H0 s Q k =>
  h1 H0 s _ fun v H1 s1 d1 => h2 H1 (s.trans s1) _ fun w H2 s2 d2 => w_catX (dx_same s2 d1) d2 hz fun c H3 s3 d3 => k _ _ ((s1.trans s2).trans s3) d3
theorem gd_slL {i : Int} (h1 : GivesD K σ H ta (.tuple ds)) : GivesD K σ H (L2.tSl (rSlA K) ta (tPart (tC (.int i))) tNoPart) (.tuple (cutL ds (some i) none)) := fun H0 s Q k =>
  h1 H0 s _ fun v H1 s1 d1 => ⟨i, rfl, w_slX d1 fun v' H2 s2 d2 => k _ _ (s1.trans s2) d2⟩
theorem gd_repT {n : Nat} (h1 : GivesD K σ H ta (.tuple ds)) (h0 : ds ≠ []) (hn : 2 ≤ n) (hn2 : n ≤ 1000) (hl : ds.length ≤ 1000) : GivesD K σ H (tOp (rRepT K) ta (tC (.int (n : Nat)))) (.tuple (List.replicate n ds).flatten) := fun H0 s Q k =>
  h1 H0 s _ fun v H1 s1 d1 => w_repX d1 h0 hn hn2 hl fun v' H2 s2 d2 => k _ _ (s1.trans s2) d2
end
/-- elements that may stand in an order, at most n -/
def SmT (n : Nat) (ds : List PyData) : Prop := (∀ d ∈ ds, smallE d = true) ∧ ds.length ≤ n
theorem SmT.app {n m : Nat} {ds es : List PyData} (h : SmT n ds) (h' : SmT m es) : SmT (n + m) (ds ++ es) := ⟨fun d hd => (List.mem_append.mp hd).elim (h.1 d) (h'.1 d), by rw [List.length_append]; exact Nat.add_le_add h.2 h'.2⟩
theorem SmT.cut {n : Nat} {ds : List PyData} {lo hi : Option Int} (h : SmT n ds) : SmT n (cutL ds lo hi) := ⟨fun d hd => h.1 d (cut_mem d hd), Nat.le_trans (cutL_len _ _ _) h.2⟩
theorem SmT.rep {n k : Nat} {ds : List PyData} (h : SmT n ds) : SmT (k * n) (List.replicate k ds).flatten := ⟨fun d hd => by
  obtain ⟨l, hl, hd⟩ := List.mem_flatten.mp hd
  rw [List.eq_of_mem_replicate hl] at hd
  exact h.1 d hd, by
  rw [List.length_flatten, List.map_replicate, List.sum_replicate_nat]
  exact Nat.mul_le_mul_left _ h.2⟩
end TP

/-! any value as counts -/
namespace TP
open PySem PySem.Spec PyProof.Rows L2 LamX
/-- F tells the first index that is none -/
abbrev Ver := List PyData → Option Nat
def verV (F : Ver) : PyData → V
  | .tuple ds => optV (F ds)
  | _ => .non
def verDue (F : Ver) : PyData → V
  | .tuple ds => match F ds with
    | none => .int (-1)
    | some i => .int (i : Nat)
  | _ => .non
def verD (F : Ver) : PyData → PyData
  | .tuple ds => match F ds with
    | none => .none
    | some i => .int (i : Nat)
  | _ => .none
def verOk (F : Ver) : PyData → Bool
  | .tuple ds => (F ds).isNone
  | _ => false
abbrev badF (m : Int) : Ver := fun ds => firstBad ds m
/-- Summary(capacity, counts), of any values -/
def spInitX (K : PySem.W.Frag) : Sp := fun vs H Q E => ∃ (x dx : Addr) (v1 v2 : V) (d1 d2 : PyData), vs = [.ref x, v1, v2] ∧ H x = some (.ins (He.ga K "Summary") dx []) ∧ Dx K H v1 d1 ∧ Dx K H v2 d2 ∧ szD d2 = true ∧ (betD d1 1 8 = false → ∀ dd H', Same H H' → H' dd = some (.xd [("capacity", v1)]) → E (.ref (He.ga K "InvalidCapacity")) (some dd) H') ∧ (∀ c, d1 = .int c → 1 ≤ c → c ≤ 8 → (verOk (badF c) d2 = true → ∀ H', SameB x H H' → H' x = some (.ins (He.ga K "Summary") dx [("capacity", .int c), ("counts", v2)]) → Q .non H') ∧ (verOk (badF c) d2 = false → ∀ dd H', Same H H' → H' dd = some (.xd [("index", verV (badF c) d2)]) → E (.ref (He.ga K "InvalidSummary")) (some dd) H'))
/-! making inside lambdas: the written part told -/
section
variable {X : Cx} {CX : CXT} {k n : Nat} {C m q : Str} {st : Stmt} {dvs : List V} {ps ks : List Str} {js : List Nat} {sp : Sp} {E : XK} {p pos apos : Pos} {e o : Expr} {es : List Expr} {kws : List Keyword} {ta : TE} {t tk : TA} {fs : List Str}
end
end TP

namespace TP
open PySem PySem.Spec PyProof.Rows L2
abbrev emptyS (w : World) : Obj := { cls := .type "set", dict := none, data := .set #[] 0 (.fresh 0 0 (!w.params.followText "set-order")) }
/-! ### len(set(texts)) -/
/-- c different ones stand in the list -/
def Dst (xs : List Str) (c : Nat) : Prop := ∃ l : List Str, l.Nodup ∧ l.length = c ∧ ∀ k, k ∈ l ↔ k ∈ xs
theorem Dst.nil : Dst [] 0 := ⟨[], List.nodup_nil, rfl, fun _ => Iff.rfl⟩
theorem Dst.le {xs : List Str} {c : Nat} (h : Dst xs c) : c ≤ xs.length := by
  obtain ⟨l, nd, rfl, m⟩ := h
  exact nodup_sub_len nd fun k hk => (m k).1 hk
theorem Dst.old {xs : List Str} {c : Nat} {x : Str} (h : Dst xs c) (hx : x ∈ xs) : Dst (xs ++ [x]) c := by
  obtain ⟨l, nd, e, m⟩ := h
  refine ⟨l, nd, e, fun k => ?_⟩
  rw [m, List.mem_append, List.mem_singleton]
  exact ⟨.inl, fun z => z.elim id fun e => e ▸ hx⟩
theorem Dst.new {xs : List Str} {c : Nat} {x : Str} (h : Dst xs c) (hx : x ∉ xs) : Dst (xs ++ [x]) (c + 1) := by
  obtain ⟨l, nd, e, m⟩ := h
  refine ⟨x :: l, List.nodup_cons.mpr ⟨fun z => hx ((m x).1 z), nd⟩, by rw [List.length_cons, e], fun k => ?_⟩
  rw [List.mem_cons, m, List.mem_append, List.mem_singleton]
  exact Or.comm
section
variable {P : Program} {w : World} {A : Around} {E : Value → Shared → Prop} {s : Shared}
theorem set_loop_strs {I : Addr} {fp wr : List Addr} {G : Array GenState → Array GenState → Prop} {n : Nat} {Pv : Nat → Value → Prop} {St : Nat → Shared → Prop} {R : Result → Shared → Prop}
    (W : WalksS P w A.in1 I fp wr G n Pv St) (S : Addr) (noS : S ∉ fp) (ns : List Str) (hn : n = ns.length) (hb : ns.length + 1 < scanBound) (hv : ∀ i v, Pv i v → ∃ k t, ns[i]? = some k ∧ v = .str k t) :
    ∀ (k i : Nat) (s : Shared), n - i = k → i ≤ n → St i s → (∃ c, Dst (ns.take i) c ∧ s.heap.SetOf (strKind P w) S (fun j => decide (j ∈ ns.take i)) c) →
      (∀ s' c, Moved (S :: wr) G s s' → Dst ns c → s'.heap.SetOf (strKind P w) S (fun j => decide (j ∈ ns)) c → R (.ok (.ret .none)) s') →
      codeAny (model P w) A (.builtin "set.update.loop" ⟨[.ref S, .ref I], []⟩) R s := by
  have noW : S ∉ wr := fun h => noS (W.sub _ h)
  have sub : ∀ b ∈ wr, b ∈ S :: wr := fun b hb => List.mem_cons_of_mem _ hb
  have keep : ∀ {h h' : Heap} {f : Str → Bool} {c : Nat}, (∀ o, h.get? S = some o → h'.get? S = some o) → h.SetOf (strKind P w) S f c → h'.SetOf (strKind P w) S f c := fun k ⟨o, es, ep, t, ho, r⟩ => ⟨o, es, ep, t, k o ho, r⟩
  intro k
  induction k with
  | zero =>
    rintro i s hk' hi hst ⟨c, hc, hS⟩ hR
    have hin : i = n := by omega
    subst hin
    refine codeAny_builtin F.entry_set_update_loop ?_
    rw [Around.under_plainId F.plain_set_update_loop _]
    show wpAny _ A.in1 (pyNext (.ref I) >>= _) _ _ s
    refine wpAny_bind (W.done s _ _ hst fun s' hm => ?_)
    show wpAny _ A.in1 (ret Value.none) _ _ s'
    have e : ns.take i = ns := List.take_of_length_le (by omega)
    rw [e] at hS hc
    exact wpAny_pure (hR s' c (hm.mono sub) hc (keep (fun o e => hm.heap S o noW e) hS))
  | succ k ih =>
    rintro i s hk' hi hst ⟨c, hc, hS⟩ hR
    have hlt : i < n := by omega
    refine codeAny_builtin F.entry_set_update_loop ?_
    rw [Around.under_plainId F.plain_set_update_loop _]
    show wpAny _ A.in1 (pyNext (.ref I) >>= _) _ _ s
    refine wpAny_bind (W.item i s _ _ hlt hst fun v s' hP hst' hm => ?_)
    obtain ⟨z, t, hz, rfl⟩ := hv i v hP
    have hS' := keep (fun o e => hm.heap S o noW e) hS
    show wpAny _ A.in1 (holding [Value.str z t] (setAdd S (.str z t)) >>= _) _ _ s'
    refine wpAny_bind (wpAny_holding ?_)
    unfold setAdd
    refine wpAny_holding ?_
    refine wpAny_bind ((strKind P w).pyHash (k := z) (strKind_is _ _ _ _) ?_)
    have cle := hc.le
    rw [List.length_take] at cle
    refine wpAny_setAddHashed_of (knd := strKind P w) (s := { s' with toks := s'.toks + 1 }) (strKind_is _ _ _ _) rfl hS' (by omega) fun h' hsb hS2 => ?_
    have etk : ns.take (i + 1) = ns.take i ++ [z] := by rw [List.take_add_one, hz]; rfl
    have hS3 : h'.SetOf (strKind P w) S (fun j => decide (j ∈ ns.take (i + 1))) (if decide (z ∈ ns.take i) = true then c else c + 1) := SetOf_congr hS2 (fun j => by
      rw [etk, Bool.eq_iff_iff, Bool.or_eq_true, decide_eq_true_eq, decide_eq_true_eq, decide_eq_true_eq, List.mem_append, List.mem_singleton]) rfl
    have hc3 : Dst (ns.take (i + 1)) (if decide (z ∈ ns.take i) = true then c else c + 1) := by
      rw [etk]
      by_cases hz2 : z ∈ ns.take i
      · rw [if_pos (decide_eq_true hz2)]; exact hc.old hz2
      · rw [if_neg (by rw [decide_eq_true_eq]; exact hz2)]; exact hc.new hz2
    refine wpAny_pure ⟨plainId_quiet F.plain_set_update_loop _, ih (i + 1) _ (by omega) hlt (W.frame _ s' _ _ hst' (Nat.le_succ _) fun b hb o e => ?_) ⟨_, hc3, hS3⟩ fun s2 c2 hm2 hc2 hS2 => ?_⟩
    · rw [hsb.2 b (fun h : b = S => noS (by rw [← h]; exact hb))]; exact e
    · refine hR s2 c2 (Moved.trans W.gtrans ((hm.mono sub).then_heap (Nat.le_succ _) fun b o hb e => ?_) hm2) hc2 hS2
      rw [hsb.2 b (fun h : b = S => hb (by rw [h]; exact List.mem_cons_self))]; exact e
theorem call_setStrs {l : Addr} {items : Array Value} (ns : List Str) {Q : Value → Shared → Prop} (hh : A.handled = none) (hl : s.heap.IsList l items) (hit : StrsAre items.toList ns) (hb : ns.length + 1 < scanBound)
    (h : ∀ (h' : Heap) (tk c : Nat), h'.SetOf (strKind P w) s.heap.objs.size (fun j => decide (j ∈ ns)) c → Dst ns c → (∀ b o, s.heap.get? b = some o → h'.get? b = some o) → Q (.ref s.heap.objs.size) { s with heap := h', toks := tk }) :
    wpAny (model P w) A (call (.type "set") [.ref l]) Q E s := by
  have same : items.size = ns.length := by rw [← Array.length_toList]; exact StrsAre.len_eq hit
  obtain ⟨c0, tl0, hmro⟩ := PySem.F.called_set.mro
  have hmade := PySem.F.called_set.made
  have hsub := PySem.F.called_set.sub
  refine wpAny_call (codeAny_of_tree ?_)
  show wpAny _ _ (callAny (.type "set") _) _ _ _
  refine wpAny_pure ⟨Code.quiet_builtin _ (by decide +kernel), codeAny_builtin PySem.F.entry_type_call ?_⟩
  rw [Around.under_plain (weight_type_call_type "set" [.ref l] []) rfl]
  have g1 := PySem.F.called_set.notType
  have g2 := PySem.F.called_set.canCreate
  have g3 := PySem.F.typeCall_set_1 (.ref l)
  repeat (any_goals (first | assumption | wp_step))
  refine codeAny_mono (code_set_led1 (.ref l) (E := E) (Q₁ := fun ob t => ob = .ref s.heap.objs.size ∧ t = { s with heap := s.heap.push (emptyS w) }) ⟨rfl, rfl⟩) fun r t1 hr => ?_
  cases r with
  | error e => exact hr
  | ok fl =>
    cases fl with
    | ret ob =>
      obtain ⟨rfl, rfl⟩ := hr
      have at0 : (s.heap.push (emptyS w)).get? s.heap.objs.size = some (emptyS w) := Heap.get?_push_size _ rfl
      have ty0 : Shared.TypeIs { s with heap := s.heap.push (emptyS w) } (.ref s.heap.objs.size) "set" := ⟨_, at0, rfl⟩
      have g4 := PySem.F.called_set.init.lookup
      have g5 := PySem.F.called_set.init.bind (.ref s.heap.objs.size)
      repeat (any_goals (first | assumption | wp_step))
      refine codeAny_mono (codeAny_call_builtin (R := wants (fun r t => r = .none ∧ ∃ h' tk c, t = { s with heap := h', toks := tk } ∧ h'.SetOf (strKind P w) s.heap.objs.size (fun j => decide (j ∈ ns)) c ∧ Dst ns c ∧
          (∀ b o, s.heap.get? b = some o → h'.get? b = some o)) E) PySem.F.called_set.init.plain PySem.F.entry_set_init (check_set_init_1 ty0 ?_)) fun r2 t2 hr2 => ?_
      · obtain ⟨ol, hol, hcl, nl, hdl⟩ := hl
        obtain ⟨ocls, odict, odata, oslots⟩ := ol
        simp only at hcl hdl
        subst hcl; subst hdl
        have hol1 : (s.heap.push (emptyS w)).get? l = some { cls := .type "list", dict := odict, data := .seq items nl, slots := oslots } := Heap.get?_push_of_some _ hol
        have g6 := PySem.F.sub_list_set
        have g7 := PySem.F.sub_list_frozenset
        have g8 : (Value.type "list" == Value.type "dict") = false := by decide
        have isL : (s.heap.push (emptyS w)).IsList l items := ⟨_, hol1, rfl, nl, rfl⟩
        unfold Builtin.«set.__init__» noKeywords Builtin.Frozenset.updateFrom
        generalize hPI : pyIter = PI
        wp_walk
        subst hPI
        refine wpAny_pyIter_list isL ?_
        refine wpAny_bind (wpAny_runValue ?_)
        have ltL : l < s.heap.objs.size := Heap.lt_size hol
        have hh3 : A.in1.in1.in1.handled = none := by simp [hh]
        have neI : l ≠ (s.heap.push (emptyS w)).objs.size := by rw [Heap.size_push]; exact Nat.ne_of_lt (Nat.lt_succ_of_lt ltL)
        have noF : s.heap.objs.size ∉ [(s.heap.push (emptyS w)).objs.size, l] := by
          rw [Heap.size_push]; simp only [List.mem_cons, List.not_mem_nil, or_false, not_or]
          exact ⟨Nat.ne_of_lt (Nat.lt_succ_self _), Nat.ne_of_gt ltL⟩
        have vals : ∀ (i : Nat) (v : Value), items[i]? = some v → ∃ k t, ns[i]? = some k ∧ v = .str k t := fun i v hv => by
          have hi : i < ns.length := by rw [← same]; exact (Array.getElem?_eq_some_iff.mp hv).1
          obtain ⟨t, e⟩ := SS.strs_at hit i v (by rw [Array.getElem?_toList]; exact hv)
          refine ⟨ns[i], t, List.getElem?_eq_getElem hi, ?_⟩
          rw [e, List.getD_eq_getElem?_getD, List.getElem?_eq_getElem hi] <;> rfl
        refine set_loop_strs ((Walks.list hh3 _ l neI items).toS) s.heap.objs.size
          noF ns same hb vals (items.size - 0) 0 _ (by omega) (Nat.zero_le _)
          ⟨⟨_, Heap.get?_push_size _ rfl, rfl, rfl⟩, (isL.push _)⟩ ?start ?fin
        case start => exact ⟨0, .nil, SetOf_congr ((setObjOf_fresh (knd := strKind P w) (!w.params.followText "set-order")).setOf (Heap.get?_push_of_some _ at0) (by decide)) (fun k => by simp) rfl⟩
        case fin =>
          intro t c' mv hc' hS'
          obtain ⟨h', g', d', tk', os'⟩ := t
          have eg : g' = s.gens := mv.gens
          have ed : d' = s.drawn := mv.drawn
          have eo : os' = s.os := mv.os
          subst eg; subst ed; subst eo
          show wpAny _ _ _ _ _ _
          refine wpAny_pure ?_
          show wpAny _ _ (ret Value.none) _ _ _
          refine wpAny_pure ⟨rfl, h', tk', c', rfl, hS', hc', fun b o e => ?_⟩
          have lt : b < s.heap.objs.size := Heap.lt_size e
          refine mv.heap b o ?_ (Heap.get?_push_of_some _ (Heap.get?_push_of_some _ e))
          simp only [List.mem_cons, List.not_mem_nil, or_false, not_or]
          exact ⟨Nat.ne_of_lt lt, by rw [Heap.size_push]; exact Nat.ne_of_lt (Nat.lt_succ_of_lt lt)⟩
      · cases r2 with
        | error e => exact hr2
        | ok fl2 =>
          cases fl2 with
          | ret r =>
            obtain ⟨rfl, h', tk, c, rfl, hS', hc', hk'⟩ := hr2
            repeat (any_goals (first | assumption | wp_step))
            exact h _ _ _ hS' hc' hk'
          | _ => exact hr2.elim
    | _ => exact hr.elim
end
def tLenSetS (K : PySem.W.Frag) (ta : TE) : TE := fun σ H Q => ta σ H fun x H1 => ∃ l, ∃ xs : List Str, x = .ref l ∧ SqL K H1 l (xs.map V.str) ∧ xs.length ≤ 4000 ∧ ∀ c : Nat, Dst xs c → Q (.int c) H1
theorem k_lenSetS {X : Cx} {a : Expr} {ta : TE} {p p2 q pos : Pos} (K : PySem.W.Frag) (hc : X.calm = true) (hg : Gl X "len") (hm : X.mg "len" = none) (hg2 : Gl X "set") (hm2 : X.mg "set" = none) (ha : PE X a ta) (eK : X.K = K := by rfl)
    (na : starEach [a] X.env = (false, eval a X.env) :: starEach [] X.env := by rfl) : PE X (.Call (.Name "len" p) [.Call (.Name "set" p2) [a] [] q] [] pos) (tLenSetS K ta) := by
  subst eK
  refine ⟨fun pins s σ H Q I h => ?_⟩
  refine Call_ (ld_blt I hg hm boot_len ?_)
  refine PyProof.Rows.callWith_builtin1 (PyProof.Rows.args_cons ?_ rfl) rfl rfl
  refine Call_ (ld_blt I hg2 hm2 boot_set ?_)
  refine PyProof.Rows.callWith_type1 (PyProof.Rows.args_cons (thn (ha.run pins s σ H _ I h) fun v s1 ⟨x, H1, I1, r1, q1⟩ => PyProof.Rows.args_nil ?_) na) na rfl
  obtain ⟨l, xs, rfl, hq, h1, q1⟩ := q1
  cases r1
  obtain ⟨its, r, pl, hz⟩ := I1.list hq
  refine call_setStrs xs (I1.ok.hd hc) pl.isList (by simpa using strsAre_of r) (show xs.length + 1 < 4096 by omega) fun h' tk c hS hd hk => ?_
  refine PyProof.Rows.args_nil ?_
  have cle := hd.le
  obtain ⟨o, es, ep, t, ho, hex, hdt, _, _, _, hf, hn⟩ := hS
  have I2 : L2.Inv X pins σ H1 { s1 with heap := h', toks := tk } := I1.kept fun b o e => hk b o e
  refine call_len_set ho hex hdt hf (by rw [hn]; omega) ⟨.int c, H1, I2.tok _, ⟨_, by rw [hn]⟩, q1 c hd⟩
theorem w_lenSetS {K : PySem.W.Frag} {ta : TE} {σ : L2.St} {H : Hp} {Q : VK} (h : ta σ H fun x H1 => ∃ l, ∃ xs : List Str, x = .ref l ∧ SqL K H1 l (xs.map V.str) ∧ xs.length ≤ 4000 ∧ ∀ c : Nat, Dst xs c → Q (.int c) H1) : tLenSetS K ta σ H Q := h
end TP

/-! any value as a merge plan -/
namespace TP
open PySem PySem.Spec PyProof.Rows L2 LamX
/-- the names of an order's runs -/
def ordNm : PyData → List Str
  | .tuple rs => rs.map nmD
  | _ => []
def noPlAt (ds : List PyData) (i : Nat) : Bool := decide (400 ≤ i) || (!orderD (ds.getD i .none) || decide (12 < (namesOf ((ds.take (i + 1)).flatMap ordNm)).length))
def firstPl (ds : List PyData) : Option Nat := (List.range ds.length).find? (noPlAt ds)
def planX : PyData → Bool
  | .tuple ds => (firstPl ds).isNone
  | _ => false
theorem find_some' {n i : Nat} {p : Nat → Bool} (hi : i < n) (hb : p i = true) (hp : ∀ j, j < i → p j = false) : (List.range n).find? p = some i := by
  cases e : (List.range n).find? p with
  | none =>
    rw [List.find?_eq_none] at e
    exact absurd hb (e i (List.mem_range.mpr hi))
  | some k =>
    have h1 : p k = true := List.find?_some e
    have h2 := List.mem_range.mp (List.mem_of_find?_eq_some e)
    by_cases h3 : k < i
    · rw [hp k h3] at h1; cases h1
    · by_cases h4 : k = i
      · rw [h4]
      · exfalso
        rw [List.find?_eq_some_iff_append] at e
        obtain ⟨_, as, bs, e2, e3⟩ := e
        have hk : as.length = k := by
          have : (List.range n)[as.length]? = some k := by rw [e2]; simp
          rw [List.getElem?_range (by have := congrArg List.length e2; simp at this; omega)] at this
          exact Option.some.inj this
        have hin : i ∈ as := by
          have : (List.range n)[i]? = some i := List.getElem?_range hi
          rw [e2, List.getElem?_append_left (by omega)] at this
          exact List.mem_of_getElem? this
        have := e3 i hin
        rw [hb] at this
        cases this
theorem firstPl_some {ds : List PyData} {i : Nat} (hi : i < ds.length) (hb : noPlAt ds i = true) (hp : ∀ j, j < i → noPlAt ds j = false) : firstPl ds = some i := find_some' hi hb hp
theorem firstPl_none {ds : List PyData} (hp : ∀ j, j < ds.length → noPlAt ds j = false) : firstPl ds = none := by
  unfold firstPl
  rw [List.find?_eq_none]
  intro i hi
  rw [hp i (List.mem_range.mp hi)]
  exact Bool.false_ne_true
theorem isNone_iff {n : Nat} {p : Nat → Bool} : ((List.range n).find? p).isNone = true ↔ ∀ i, i < n → p i = false := by
  rw [Option.isNone_iff_eq_none, List.find?_eq_none]
  exact ⟨fun h i hi => by
    have := h i (List.mem_range.mpr hi)
    cases e : p i
    · rfl
    · exact absurd e this, fun h i hi => by rw [h i (List.mem_range.mp hi)]; exact Bool.false_ne_true⟩
theorem names_le {a b : List Str} (h : ∀ x ∈ a, x ∈ b) : (namesOf a).length ≤ (namesOf b).length := nodup_sub_len (namesOf_nodup a) fun x hx => namesOf_mem.mpr (h x (namesOf_mem.mp hx))
theorem names_app (a b : List Str) : (namesOf (a ++ b)).length ≤ (namesOf a).length + b.length := by
  have h := (namesOf_aux b (namesOf a) (namesOf_nodup a)).2.2.2
  have e : namesOf (a ++ b) = b.foldl addN (namesOf a) := by unfold namesOf; rw [List.foldl_append]
  rw [e]; exact h
theorem getD_at {ds : List PyData} {i : Nat} (h : i < ds.length) : ds.getD i .none = ds[i] := by simp [List.getD, h]
theorem ord_all (ds : List PyData) : orderD (.tuple ds) = (decide (ds.length ≤ 1000) && (ds.all runD && decide ((namesOf (ds.map nmD)).length ≤ 12))) := by
  rw [Bool.eq_iff_iff, Bool.and_eq_true, Bool.and_eq_true, decide_eq_true_eq, decide_eq_true_eq, List.all_eq_true]
  show (firstNo ds).isNone = true ↔ _
  unfold firstNo
  rw [isNone_iff]
  constructor
  · intro h
    have hr : ∀ i (hl : i < ds.length), i < 1000 ∧ runD ds[i] = true ∧ (namesOf ((ds.take (i + 1)).map nmD)).length ≤ 12 := fun i hl => by
      have := h i hl
      unfold noOrdAt at this
      rw [Bool.or_eq_false_iff, Bool.or_eq_false_iff, getD_at hl] at this
      obtain ⟨a, b, c⟩ := this
      exact ⟨by have := of_decide_eq_false a; omega, by simpa using b, by have := of_decide_eq_false c; omega⟩
    by_cases z : ds.length = 0
    · have e := List.length_eq_zero_iff.mp z
      subst e
      exact ⟨by decide, nofun, by decide⟩
    · have h1 := hr (ds.length - 1) (by omega)
      rw [List.take_of_length_le (by omega)] at h1
      exact ⟨by omega, fun d hd => by
        obtain ⟨i, hl, rfl⟩ := List.mem_iff_getElem.mp hd
        exact (hr i hl).2.1, h1.2.2⟩
  · rintro ⟨h1, h2, h3⟩ i hl
    unfold noOrdAt
    rw [getD_at hl, h2 _ (List.getElem_mem hl), decide_eq_false (show ¬ 1000 ≤ i by omega)]
    have := names_le (a := (ds.take (i + 1)).map nmD) (b := ds.map nmD) fun x hx => by
      obtain ⟨y, hy, rfl⟩ := List.mem_map.mp hx
      exact List.mem_map.mpr ⟨y, List.mem_of_mem_take hy, rfl⟩
    rw [decide_eq_false (by omega)]; rfl
theorem plan_all (ds : List PyData) : planX (.tuple ds) = (decide (ds.length ≤ 400) && (ds.all orderD && decide ((namesOf (ds.flatMap ordNm)).length ≤ 12))) := by
  rw [Bool.eq_iff_iff, Bool.and_eq_true, Bool.and_eq_true, decide_eq_true_eq, decide_eq_true_eq, List.all_eq_true]
  show (firstPl ds).isNone = true ↔ _
  unfold firstPl
  rw [isNone_iff]
  constructor
  · intro h
    have hr : ∀ i (hl : i < ds.length), i < 400 ∧ orderD ds[i] = true ∧ (namesOf ((ds.take (i + 1)).flatMap ordNm)).length ≤ 12 := fun i hl => by
      have := h i hl
      unfold noPlAt at this
      rw [Bool.or_eq_false_iff, Bool.or_eq_false_iff, getD_at hl] at this
      obtain ⟨a, b, c⟩ := this
      exact ⟨by have := of_decide_eq_false a; omega, by simpa using b, by have := of_decide_eq_false c; omega⟩
    by_cases z : ds.length = 0
    · have e := List.length_eq_zero_iff.mp z
      subst e
      exact ⟨by decide, nofun, by decide⟩
    · have h1 := hr (ds.length - 1) (by omega)
      rw [List.take_of_length_le (by omega)] at h1
      exact ⟨by omega, fun d hd => by
        obtain ⟨i, hl, rfl⟩ := List.mem_iff_getElem.mp hd
        exact (hr i hl).2.1, h1.2.2⟩
  · rintro ⟨h1, h2, h3⟩ i hl
    unfold noPlAt
    rw [getD_at hl, h2 _ (List.getElem_mem hl), decide_eq_false (show ¬ 400 ≤ i by omega)]
    have := names_le (a := (ds.take (i + 1)).flatMap ordNm) (b := ds.flatMap ordNm) fun x hx => by
      obtain ⟨y, hy, hx⟩ := List.mem_flatMap.mp hx
      exact List.mem_flatMap.mpr ⟨y, List.mem_of_mem_take hy, hx⟩
    rw [decide_eq_false (by omega)]; rfl
/-- orders are tuples of runs -/
theorem ords_of : ∀ {ds : List PyData}, (∀ d ∈ ds, orderD d = true) → ∃ rss : List Bag, ds = rss.map bagD ∧ ∀ rs ∈ rss, OrdOk rs
  | [], _ => ⟨[], rfl, nofun⟩
  | d :: ds, h => by
    obtain ⟨ps, rfl, h1⟩ := ord_inv (h d List.mem_cons_self)
    obtain ⟨rss, rfl, h2⟩ := ords_of fun d hd => h d (List.mem_cons_of_mem _ hd)
    exact ⟨ps :: rss, rfl, fun rs hrs => (List.mem_cons.mp hrs).elim (fun e => e ▸ h1) (h2 rs)⟩
theorem ordNm_bag (ps : Bag) : ordNm (bagD ps) = ps.map (·.1) := nmD_map ps
theorem ordNm_all (rss : List Bag) : (rss.map bagD).flatMap ordNm = rss.flatten.map (·.1) := by
  induction rss with
  | nil => rfl
  | cons r l ih => rw [List.map_cons, List.flatMap_cons, ih, ordNm_bag, List.flatten_cons, List.map_append]
theorem planX_inv {d : PyData} (h : planX d = true) : ∃ rss : List Bag, d = .tuple (rss.map bagD) ∧ (∀ rs ∈ rss, OrdOk rs) ∧ rss.length ≤ 400 ∧ (namesOf (rss.flatten.map (·.1))).length ≤ 12 := by
  cases d with
  | tuple ds =>
    rw [plan_all, Bool.and_eq_true, Bool.and_eq_true, decide_eq_true_eq, decide_eq_true_eq, List.all_eq_true] at h
    obtain ⟨h1, h2, h3⟩ := h
    obtain ⟨rss, rfl, h4⟩ := ords_of h2
    rw [ordNm_all] at h3
    exact ⟨rss, rfl, h4, by rw [List.length_map] at h1; exact h1, h3⟩
  | _ => cases h
/-- data without dicts: lists of runs -/
theorem dx_bags {K : PySem.W.Frag} {H : Hp} {v : V} {rss : List Bag} (h : Dx K H v (.tuple (rss.map bagD))) : Dp K H v (.tuple (rss.map bagD)) := by
  obtain ⟨a, xs, rfl, hs, hx⟩ := dx_tup_inv h
  refine .tup hs ?_
  clear hs h
  induction rss generalizing xs with
  | nil => cases hx; exact .nil
  | cons p ps ih =>
    cases hx with
    | cons r hx => exact .cons (dx_bag r) (ih _ hx)
/-- a value that is asked as a merge plan -/
structure OddP (d : PyData) : Prop where
  sz : szD d = true
  shows : ShowsX d
  len : ∀ ds, d = .tuple ds → ds.length ≤ 5000
  row : ∀ ds rs, d = .tuple ds → .tuple rs ∈ ds → rs.length ≤ 5000
  big : ∀ rss : List Bag, d = .tuple (rss.map bagD) → (rss.map List.length).sum ≤ 4000 ∧ ∀ p ∈ rss.flatten, p.2 ≤ 10 ^ 90
/-! ### a comprehension of any values: the list that grows is hidden meanwhile -/
def listE (D : Addr) (acc : List V) : HO := .ext fun h => acc.length ≤ sizeLine ∧ ∃ (its : List Value) (n : Nat), Vals acc its ∧ h.get? D = some { cls := .type "list", data := .seq its.toArray n }
def tHideE (t : TE) : TE := fun σ H Q => ∃ d acc, H d = some (.lst acc) ∧ t σ (upd H d (listE d acc)) fun v H' => H' d = some (listE d acc) ∧ Q v (upd H' d (.lst acc))
theorem pe_hide {X : Cx} {e : Expr} {t : TE} (h : PE X e t) : PE X e (tHideE t) := by
  refine ⟨fun pins s σ H Q I hw => ?_⟩
  obtain ⟨d, acc, hd, hw⟩ := hw
  obtain ⟨hz, its, n, hv, he⟩ := I.hok d _ hd
  have I1 : Inv X pins σ (upd H d (listE d acc)) s := I.write (x := d) (e := d) (t' := s.toks) (h' := s.heap) (o := listE d acc) (by rw [hd]; trivial) (.inl rfl) (fun b v _ q => q) ⟨_, he⟩ ⟨⟨hz, its, n, hv, he⟩, ⟨_, he⟩, fun h1 h2 ⟨a, b, c, x, y⟩ k => ⟨a, b, c, x, k _ y⟩⟩
  refine thn (h.run pins s σ _ _ I1 hw) fun v s1 ⟨x, H1, I2, r, e2, q⟩ => ?_
  obtain ⟨⟨hz2, its2, n2, hv2, he2⟩, _⟩ := I2.hok d _ e2
  exact ⟨x, _, I2.write (x := d) (e := d) (t' := s1.toks) (h' := s1.heap) (o := .lst acc) (by rw [e2]; trivial) (.inl rfl) (fun b v _ q => q) ⟨_, he2⟩ ⟨hz2, its2, n2, hv2, he2⟩, r, q⟩
/-- H's cells beside D stand in G -/
def BesD (D : Addr) (H G : Hp) : Prop := ∀ b o, b ≠ D → H b = some o → G b = some o
theorem rd_off {D a : Addr} {u : HO} {H G : Hp} (s : BesD D H G) (hD : a ≠ D) (h : Rd H a u) : Rd G a u := by
  rcases h with h | ⟨o, h⟩
  · exact .inl (s _ _ hD h)
  · exact .inr ⟨o, s _ _ hD h⟩
mutual
theorem dx_off {K : PySem.W.Frag} {D : Addr} {φ : Heap → Prop} {H G : Hp} (s : BesD D H G) (hD : H D = some (.ext φ)) : ∀ {v : V} {d : PyData}, Dx K H v d → Dx K G v d
  | _, _, .non => .non
  | _, _, .bl b => .bl b
  | _, _, .int i => .int i
  | _, _, .str x => .str x
  | _, _, .lst h r => .lst (h.imp (fun q => rd_off s (fun e => by subst e; rcases q with q | ⟨o, q⟩ <;> rw [hD] at q <;> cases q) q) id) (dxs_off s hD r)
  | _, _, .tup h r => .tup (h.imp (fun q => rd_off s (fun e => by subst e; rcases q with q | ⟨o, q⟩ <;> rw [hD] at q <;> cases q) q) id) (dxs_off s hD r)
  | _, _, .dct h => .dct (s _ _ (fun e => by rw [e, hD] at h; cases h) h)
theorem dxs_off {K : PySem.W.Frag} {D : Addr} {φ : Heap → Prop} {H G : Hp} (s : BesD D H G) (hD : H D = some (.ext φ)) : ∀ {vs : List V} {ds : List PyData}, DxAll K H vs ds → DxAll K G vs ds
  | _, _, .nil => .nil
  | _, _, .cons h r => .cons (dx_off s hD h) (dxs_off s hD r)
end
theorem dxs_snoc {K : PySem.W.Frag} {H : Hp} {vs : List V} {ds : List PyData} {v : V} {d : PyData} (h : DxAll K H vs ds) (r : Dx K H v d) : DxAll K H (vs ++ [v]) (ds ++ [d]) := dxs_app h (.cons r .nil)
section
variable {J : It} {n : Nat} {G : Hp → Prop} {Y : Nat → Hp → V → Hp → Prop} {te : TE} {vs : List Nat} {σ : L2.St} {H1 : Hp} {D : Addr} {Q : VK}
theorem lc_hid (K : PySem.W.Frag) (w : Walk J n G Y) (hn : n ≤ 100000) (R : Nat → PyData → Prop) (hD : H1 D = none) (hG : ∀ H, Same H1 H → G H) (j : Nat)
    (hs : ∀ i x H H2, i < n → Y i H2 x H2 → Same H1 H → wipe ((wipe σ vs).set j (some x)) vs = wipe σ vs ∧ ∀ Qy : VK, (∀ y d H4, Same H H4 → Dx K H4 y d → R i d → Qy y H4) → te ((wipe σ vs).set j (some x)) H Qy)
    (hY : ∀ i H x H', Y i H x H' → H' = H)
    (hd : ∀ acc ds H, Same H1 H → H1 D = none → H D = some (.lst acc) → DxAll K H acc ds → ds.length = n → (∀ i d, ds[i]? = some d → R i d) → Q (.ref D) H) : LcOk J (gName j) tYes (tHideE te) vs σ H1 D Q := by
  let Acc : Nat → List V → Hp → Prop := fun i acc H => ∃ ds, (∀ G, BesD D H G → DxAll K G acc ds) ∧ ds.length = i ∧ ∀ (j : Nat) (d : PyData), ds[j]? = some d → R j d
  refine lc_go w Acc hD hG ⟨[], fun _ _ => .nil, rfl, fun j d e => by simp at e⟩ (fun i x H H' acc hi s e l a hy => ?_) fun acc H s e _ ⟨ds, h1, h3, h4⟩ => hd acc ds H s hD e (h1 H fun _ _ _ q => q) h3 h4
  obtain ⟨ds, h1, h3, h4⟩ := a
  cases hY _ _ _ _ hy
  have sL : Same H1 (upd H D (listE D acc)) := same_mut s hD
  obtain ⟨q1, q2⟩ := hs i x (upd H D (listE D acc)) H hi hy sL
  refine ⟨q1, w_yes (w_iteT ⟨D, acc, e, q2 _ fun y d H4 s4 dy ry => ⟨s4 _ _ upd_same, ?_⟩⟩)⟩
  have e4 : H4 D = some (listE D acc) := s4 _ _ upd_same
  have b4 : BesD D H H4 := fun b o hb q => s4 b o (by rw [upd_ne hb]; exact q)
  have s14 : Same H1 (upd H4 D (.lst acc)) := same_mut (sL.trans s4) hD
  refine lc_y (Acc := Acc) hD s14 upd_same l (by omega) ⟨ds ++ [d], fun G2 hG2 => ?_, by simp [h3], fun j z ej => ?_⟩
  · have b5 : BesD D H4 G2 := fun b o hb q => hG2 b o hb (by rw [upd_ne hb, upd_ne hb]; exact q)
    exact dxs_snoc (h1 G2 fun b o hb q => b5 b o hb (b4 b o hb q)) (dx_off b5 e4 dy)
  · by_cases q : j < ds.length
    · rw [List.getElem?_append_left q] at ej; exact h4 j z ej
    · rw [List.getElem?_append_right (Nat.le_of_not_lt q)] at ej
      have q2 : j = ds.length := by
        obtain ⟨h1, _⟩ := List.getElem?_eq_some_iff.mp ej
        simp at h1; omega
      subst q2
      simp at ej
      subst ej
      rw [h3]; exact ry
end
end TP

/-! a comprehension of two fors: the runs of all orders -/
namespace TP
open PySem PySem.Spec PyProof.Rows L2 LamX
theorem flat_prs (B : Bag) : flatDs (B.map pairD) = true := by have := flat_bag B; simpa [bagD, flatD] using this
theorem flat_bgs (zss : List Bag) : flatDs (zss.map bagD) = true := by
  induction zss with
  | nil => rfl
  | cons z r ih => show (flatD (bagD z) && flatDs (r.map bagD)) = true; rw [flat_bag, ih]; rfl
theorem lc2_runs {K : PySem.W.Frag} {σ : L2.St} {H : Hp} {Q : VK} {p i j : Nat} {a : Addr} {xs : List V} {rss : List Bag} (hp : σ[p]? = some (some (.ref a)))
    (e1 : ∀ x, wipe ((wipe σ [i, j]).set i (some x)) [i, j] = wipe σ [i, j])
    (e2 : ∀ x, ((wipe σ [i, j]).set i (some x))[i]? = some (some x))
    (e3 : ∀ x y, wipe ((wipe ((wipe σ [i, j]).set i (some x)) [j]).set j (some y)) [j] = wipe ((wipe σ [i, j]).set i (some x)) [j])
    (e4 : ∀ x y, ((wipe ((wipe σ [i, j]).set i (some x)) [j]).set j (some y))[j]? = some (some y))
    (hs : SqT K H a xs) (hx : DpAll K H xs (rss.map bagD)) (hl : (rss.map List.length).sum ≤ 100000)
    (hq : ∀ D acc H', Same H H' → H' D = some (.lst acc) → DpAll K H' acc (rss.flatten.map pairD) → Q (.ref D) H') :
    tLc2 (iTup K (tVar p)) (gName i) tYes (iTup K (tVar i)) (gName j) tYes (tVar j) [i, j] [j] σ H Q := by
  have hxl : xs.length = rss.length := by rw [dps_len hx, List.length_map]
  refine ⟨_, hp, a, rfl, ⟨xs, hs⟩, fun D hD => ?_⟩
  let P : Nat → Hp → Prop := fun m G => ∃ acc, Same H G ∧ G D = some (.lst acc) ∧ DpAll K G acc ((rss.take m).flatten.map pairD)
  refine ⟨fun m k G => k = xs.length - m ∧ m ≤ xs.length ∧ P m G, ⟨_, rfl, Nat.zero_le _, [], same_new hD, upd_same, by simp; exact .nil⟩, ?_⟩
  rintro m k G ⟨rfl, hm, acc, s, hG, hacc⟩
  by_cases hlt : m < xs.length
  rotate_left
  · have e : m = xs.length := by omega
    refine .inl ⟨⟨xs, sqt_same s hs, by omega⟩, hq D acc G s hG ?_⟩
    rw [List.take_of_length_le (by omega)] at hacc
    exact hacc
  refine .inr ⟨⟨xs, _, sqt_same s hs, List.getElem?_eq_getElem hlt⟩, P (m + 1), fun H' h => ⟨_, by omega, rfl, by omega, h⟩, ?_⟩
  rintro x H' ⟨rfl, hy⟩
  have hy := hy xs (sqt_same s hs)
  obtain ⟨d, g1, hdy⟩ := dps_get (dps_same s hx) hy
  rw [List.getElem?_map] at g1
  obtain ⟨rs, g2, rfl⟩ : ∃ rs, rss[m]? = some rs ∧ bagD rs = d := by
    cases h : rss[m]? with
    | none => rw [h] at g1; cases g1
    | some rs => rw [h] at g1; exact ⟨rs, rfl, Option.some.inj g1⟩
  obtain ⟨ra, ys, rfl, hrs, hry, hrl⟩ := bag_inv hdy
  have hlen := flat_len rss (m + 1)
  rw [take_flat g2, List.length_append] at hlen
  refine ⟨e1 (.ref ra), ?_⟩
  refine w_yes (w_iteT ?_)
  refine ⟨.ref ra, e2 _, ra, rfl, ⟨ys, hrs⟩, ?_⟩
  refine ⟨fun n k G1 => k = ys.length - n ∧ n ≤ ys.length ∧ ∃ acc, Same H G1 ∧ G1 D = some (.lst acc) ∧ SqT K G1 ra ys ∧ DpAll K G1 ys (rs.map pairD) ∧ DpAll K G1 acc (((rss.take m).flatten ++ rs.take n).map pairD), ⟨_, rfl, Nat.zero_le _, acc, s, hG, hrs, hry, by simpa using hacc⟩, ?_⟩
  rintro n k G1 ⟨rfl, hn, acc1, s1, hG1, hrs1, hry1, hacc1⟩
  by_cases hlt1 : n < ys.length
  rotate_left
  · refine .inl ⟨⟨ys, hrs1, by omega⟩, acc1, s1, hG1, ?_⟩
    rw [show rs.take n = rs from List.take_of_length_le (by omega)] at hacc1
    rw [take_flat g2]
    exact hacc1
  refine .inr ⟨⟨ys, _, hrs1, List.getElem?_eq_getElem hlt1⟩, fun G2 => ∃ acc, Same H G2 ∧ G2 D = some (.lst acc) ∧ SqT K G2 ra ys ∧ DpAll K G2 ys (rs.map pairD) ∧ DpAll K G2 acc (((rss.take m).flatten ++ rs.take (n + 1)).map pairD), fun H' h => ⟨_, by omega, rfl, by omega, h⟩, ?_⟩
  rintro y G2 ⟨rfl, hz⟩
  have hz := hz ys hrs1
  obtain ⟨q, b, f1, rfl, hqb⟩ := bag_get hry1 hz
  refine ⟨e3 (.ref ra) (.ref b), ?_⟩
  refine w_yes (w_iteT ?_)
  have ha1 : acc1.length ≤ (rss.take m).flatten.length + n := by rw [dps_len hacc1, List.length_map, List.length_append, List.length_take]; omega
  refine ⟨.ref b, e4 _ _, acc1, hG1, sz_lt (by omega), acc1 ++ [.ref b], same_mut s1 hD, upd_same, ?_⟩
  have st : SameT G2 (upd G2 D (.lst (acc1 ++ [.ref b]))) := SameT.lst hG1
  refine ⟨st.sqt hrs1, dps_flat st hry1 (flat_prs _), ?_⟩
  rw [take_succ_snoc f1, ← List.append_assoc, List.map_append]
  exact dps_snoc (dps_flat st hacc1 (flat_prs _)) (pair_mk (st.sqt hqb))
theorem dst_names {xs : List Str} {c : Nat} (h : Dst xs c) : c = (namesOf xs).length := by
  obtain ⟨l, nd, rfl, m⟩ := h
  exact Nat.le_antisymm (nodup_sub_len nd fun k hk => namesOf_mem.mpr ((m k).1 hk)) (nodup_sub_len (namesOf_nodup xs) fun k hk => (m k).2 (namesOf_mem.mp hk))
/-! ### values that are asked as merge plans -/
/-- an element: small, its runs few -/
def rowK (d : PyData) : Bool := szD d && (okX d && (decide (rbX d ≤ 20000) && (decide (d.depth ≤ 20) && match d with
  | .tuple rs => decide (rs.length ≤ 8) && rs.all fun r => match r with
    | .tuple [.str _, .int i] => decide (i ≤ 10 ^ 90)
    | _ => true
  | _ => true)))
theorem rowK_bag {o : Bag} (h : rowK (bagD o) = true) : o.length ≤ 8 ∧ ∀ p ∈ o, p.2 ≤ 10 ^ 90 := by
  simp only [rowK, Bool.and_eq_true] at h
  obtain ⟨_, _, _, _, h⟩ := h
  have h : (decide ((o.map pairD).length ≤ 8) && (o.map pairD).all fun r => match r with
    | .tuple [.str _, .int i] => decide (i ≤ 10 ^ 90)
    | _ => true) = true := by simpa [bagD] using h
  rw [Bool.and_eq_true, decide_eq_true_eq, List.length_map, List.all_eq_true] at h
  exact ⟨h.1, fun p hp => of_decide_eq_true (h.2 _ (List.mem_map.mpr ⟨p, hp, rfl⟩))⟩
theorem okXs_all : ∀ {ds : List PyData}, (∀ d ∈ ds, okX d = true) → okXs ds = true
  | [], _ => rfl
  | d :: ds, h => by
    show (okX d && okXs ds) = true
    rw [h d List.mem_cons_self, okXs_all fun e he => h e (List.mem_cons_of_mem _ he)]; rfl
theorem rbXs_le {m : Nat} : ∀ {ds : List PyData}, (∀ d ∈ ds, rbX d ≤ m) → rbXs ds ≤ ds.length * (m + 2)
  | [], _ => by simp [rbXs]
  | d :: ds, h => by
    have h1 := h d List.mem_cons_self
    have h2 := rbXs_le fun e he => h e (List.mem_cons_of_mem _ he)
    show rbX d + 2 + rbXs ds ≤ (ds.length + 1) * (m + 2)
    rw [Nat.succ_mul]; omega
theorem rowK_all {ds : List PyData} (h : ∀ d ∈ ds, rowK d = true) (hl : ds.length ≤ 20) : szDs ds = true ∧ okXs ds = true ∧ rbXs ds ≤ 400040 ∧ PyData.depthAll ds ≤ 20 := by
  have hh : ∀ d ∈ ds, szD d = true ∧ okX d = true ∧ rbX d ≤ 20000 ∧ d.depth ≤ 20 := fun d hd => by
    have := h d hd
    simp only [rowK, Bool.and_eq_true, decide_eq_true_eq] at this
    exact ⟨this.1, this.2.1, this.2.2.1, this.2.2.2.1⟩
  refine ⟨szDs_all fun d hd => (hh d hd).1, okXs_all fun d hd => (hh d hd).2.1, ?_, ?_⟩
  · have := rbXs_le fun d hd => (hh d hd).2.2.1
    have h3 : ds.length * (20000 + 2) ≤ 20 * (20000 + 2) := Nat.mul_le_mul_right _ hl
    omega
  · have hd : ∀ d ∈ ds, d.depth ≤ 20 := fun d hd => (hh d hd).2.2.2
    clear hh h hl
    induction ds with
    | nil => simp [PyData.depthAll]
    | cons d r ih =>
      have h1 := hd d List.mem_cons_self
      have h2 := ih fun e he => hd e (List.mem_cons_of_mem _ he)
      simp only [PyData.depthAll]
      omega
theorem oddP_tup {ds : List PyData} (h : ∀ d ∈ ds, rowK d = true) (hl : ds.length ≤ 20) (ht : topL (.tuple ds) = true) : OddP (.tuple ds) := by
  obtain ⟨h1, h2, h3, h4⟩ := rowK_all h hl
  refine ⟨h1, ⟨h2, ?_, ?_, ht⟩, fun es e => ?_, fun es rs e hr => ?_, fun rss e => ?_⟩
  · show rbXs ds + 3 ≤ _; omega
  · simp only [PyData.depth]; omega
  · cases e; omega
  · cases e
    have := h _ hr
    simp only [rowK, Bool.and_eq_true, decide_eq_true_eq] at this
    have := this.2.2.2.2.1
    omega
  · have e2 : ds = rss.map bagD := by injection e
    subst e2
    have hr : ∀ o ∈ rss, o.length ≤ 8 ∧ ∀ p ∈ o, p.2 ≤ 10 ^ 90 := fun o ho => rowK_bag (h _ (List.mem_map.mpr ⟨o, ho, rfl⟩))
    rw [List.length_map] at hl
    refine ⟨?_, fun p hp => ?_⟩
    · have : (rss.map List.length).sum ≤ rss.length * 8 := by
        clear h h1 h2 h3 h4 e ht hl
        induction rss with
        | nil => simp
        | cons o r ih =>
          have h1 := (hr o List.mem_cons_self).1
          have h2 := ih fun o ho => hr o (List.mem_cons_of_mem _ ho)
          rw [List.map_cons, List.sum_cons, List.length_cons, Nat.succ_mul]; omega
      omega
    · obtain ⟨o, ho, hpo⟩ := List.mem_flatten.mp hp
      exact (hr o ho).2 p hpo
theorem oddP_lst {ds : List PyData} (h : ∀ d ∈ ds, rowK d = true) (hl : ds.length ≤ 20) (ht : topL (.list ds) = true) : OddP (.list ds) := by
  obtain ⟨h1, h2, h3, h4⟩ := rowK_all h hl
  refine ⟨h1, ⟨h2, ?_, ?_, ht⟩, fun es e => (nomatch e), fun es rs e => (nomatch e), fun rss e => (nomatch e)⟩
  · show rbXs ds + 2 ≤ _; omega
  · simp only [PyData.depth]; omega
/-- any written value, by looking -/
def wholeK (d : PyData) : Bool := szD d && (okX d && (decide (rbX d ≤ 16777216) && (decide (d.depth ≤ 60) && (topL d && match d with
  | .tuple ds => decide (ds.length ≤ 5000) && (decide ((ds.map fun r => match r with | .tuple rs => rs.length | _ => 0).sum ≤ 4000) && ds.all fun r => match r with
    | .tuple rs => decide (rs.length ≤ 5000) && rs.all fun q => match q with
      | .tuple [.str _, .int i] => decide (i ≤ 10 ^ 90)
      | _ => true
    | _ => true)
  | _ => true))))
theorem wholeK_odd {d : PyData} (h : wholeK d = true) : OddP d := by
  simp only [wholeK, Bool.and_eq_true, decide_eq_true_eq] at h
  obtain ⟨h1, h2, h3, h4, h5, h6⟩ := h
  refine ⟨h1, ⟨h2, h3, h4, h5⟩, fun es e => ?_, fun es rs e hr => ?_, fun rss e => ?_⟩
  all_goals
    subst e
    simp only [Bool.and_eq_true, decide_eq_true_eq, List.all_eq_true] at h6
    obtain ⟨g1, g2, g3⟩ := h6
  · exact g1
  · have := g3 _ hr
    simp only [Bool.and_eq_true, decide_eq_true_eq] at this
    exact this.1
  · refine ⟨?_, fun p hp => ?_⟩
    · have e : ((rss.map bagD).map fun r => match r with | .tuple rs => rs.length | _ => 0) = rss.map List.length := by
        rw [List.map_map]
        exact List.map_congr_left fun o _ => (List.length_map (f := pairD) : (o.map pairD).length = o.length)
      exact e ▸ g2
    · obtain ⟨o, ho, hpo⟩ := List.mem_flatten.mp hp
      have := g3 _ (List.mem_map.mpr ⟨o, ho, rfl⟩)
      have h7 : (decide ((o.map pairD).length ≤ 5000) && (o.map pairD).all fun q => match q with
        | .tuple [.str _, .int i] => decide (i ≤ 10 ^ 90)
        | _ => true) = true := by simpa [bagD] using this
      rw [Bool.and_eq_true, List.all_eq_true] at h7
      exact of_decide_eq_true (h7.2 _ (List.mem_map.mpr ⟨p, hpo, rfl⟩))
/-! ### literals: backwards, as a list, from an index on -/
theorem dxs_rev {K : PySem.W.Frag} {H : Hp} : ∀ {xs : List V} {ds : List PyData}, DxAll K H xs ds → DxAll K H xs.reverse ds.reverse
  | _, _, .nil => .nil
  | _, _, .cons h r => by rw [List.reverse_cons, List.reverse_cons]; exact dxs_app (dxs_rev r) (.cons h .nil)
section
variable {K : PySem.W.Frag} {σ : L2.St} {H : Hp} {ta tb : TE} {ds es : List PyData}
theorem gd_revT (h1 : GivesD K σ H ta (.tuple ds)) (hz : ds.length ≤ 100000) : GivesD K σ H (tStepT K (-1) ta) (.tuple ds.reverse) := fun H0 s Q k => h1 H0 s _ fun v H1 s1 d1 => by
  obtain ⟨a, xs, rfl, hs, hx⟩ := dx_tup_inv d1
  refine ⟨a, xs, rfl, hs, ?_, fun p hp => ?_⟩
  · rw [stepL_back, List.length_reverse, dxs_len hx]; exact sz_le hz
  · rw [stepL_back]
    exact k _ _ (s1.trans (same_new hp)) (.tup (SqT.of upd_same) (dxs_same (same_new hp) (dxs_rev hx)))
theorem gd_listT (h1 : GivesD K σ H ta (.tuple ds)) : GivesD K σ H (tCB (rListS K) (tCons ta tNil)) (.list ds) := fun H0 s Q k => h1 H0 s _ fun v H1 s1 d1 => by
  obtain ⟨a, xs, rfl, hs, hx⟩ := dx_tup_inv d1
  exact w_listT hs fun l hl => k _ _ (s1.trans (same_new hl)) (.lst (SqL.of upd_same) (dxs_same (same_new hl) hx))
end
/-! ### rows -/
theorem rowK_of {rs : Bag} (h : OrdOk rs) (l6 : rs.length ≤ 8) (hc : ∀ x ∈ rs, x.2 ≤ 10 ^ 30) : rowK (bagD rs) = true ∧ (bagD rs).hasDict = false ∧ noL (bagD rs) = true := by
  have h90 : (10 : Int) ^ 30 ≤ 10 ^ 90 := by decide
  have one : ∀ d ∈ rs.map pairD, szD d = true ∧ okX d = true ∧ rbX d ≤ 2100 ∧ d.depth ≤ 1 ∧ d.hasDict = false ∧ noL d = true := fun d hd => by
    obtain ⟨p, hp, rfl⟩ := List.mem_map.mp hd
    have hn := h.nam p hp
    have hl := (isName_len hn).2
    have hpos := h.pos p hp
    have hc' := hc p hp
    refine ⟨?_, ?_, ?_, ?_, ?_, ?_⟩
    · show (decide (p.1.length ≤ 100000) && (true && true)) = true
      rw [decide_eq_true (by omega)]; rfl
    · have h1 : okX (.str p.1) = true := okD_name hn
      have h2 : okX (.int p.2) = true := decide_eq_true (log2_le _ (by omega) (Int.le_trans hc' (by decide)))
      show (okX (.str p.1) && (okX (.int p.2) && true)) = true
      rw [h1, h2]; rfl
    · show ((10 * p.1.length + 2) + 2 + (1921 + 2 + 0)) + 3 ≤ 2100
      omega
    · simp only [pairD, PyData.depth, PyData.depthAll]; omega
    · simp [pairD, PyData.hasDict, PyData.hasDictAll]
    · rfl
  have hz : szDs (rs.map pairD) = true := szDs_all fun d hd => (one d hd).1
  have ho : okXs (rs.map pairD) = true := okXs_all fun d hd => (one d hd).2.1
  have hb := rbXs_le fun d hd => (one d hd).2.2.1
  rw [List.length_map] at hb
  have hb2 : rs.length * (2100 + 2) ≤ 8 * (2100 + 2) := Nat.mul_le_mul_right _ l6
  have hdp : PyData.depthAll (rs.map pairD) ≤ 1 := by
    have hd : ∀ d ∈ rs.map pairD, d.depth ≤ 1 := fun d hd => (one d hd).2.2.2.1
    generalize rs.map pairD = ds at hd
    induction ds with
    | nil => simp [PyData.depthAll]
    | cons d r ih =>
      have h1 := hd d List.mem_cons_self
      have h2 := ih fun e he => hd e (List.mem_cons_of_mem _ he)
      simp only [PyData.depthAll]; omega
  refine ⟨?_, ?_, ?_⟩
  · simp only [rowK, Bool.and_eq_true, decide_eq_true_eq]
    refine ⟨hz, ho, ?_, ?_, ?_⟩
    · show rbXs (rs.map pairD) + 3 ≤ _; omega
    · show (PyData.tuple (rs.map pairD)).depth ≤ 20
      simp only [PyData.depth]; omega
    · show (decide ((rs.map pairD).length ≤ 8) && (rs.map pairD).all fun r => match r with
        | .tuple [.str _, .int i] => decide (i ≤ 10 ^ 90)
        | _ => true) = true
      rw [List.length_map, decide_eq_true l6, Bool.true_and, List.all_eq_true]
      intro d hd
      obtain ⟨p, hp, rfl⟩ := List.mem_map.mp hd
      exact decide_eq_true (Int.le_trans (hc p hp) h90)
  · show PyData.hasDict (.tuple (rs.map pairD)) = false
    simp only [PyData.hasDict]
    have hd : ∀ d ∈ rs.map pairD, d.hasDict = false := fun d hd => (one d hd).2.2.2.2.1
    generalize rs.map pairD = ds at hd
    induction ds with
    | nil => simp [PyData.hasDictAll]
    | cons d r ih => simp [PyData.hasDictAll, hd d List.mem_cons_self, ih fun e he => hd e (List.mem_cons_of_mem _ he)]
  · show noLs (rs.map pairD) = true
    have hd : ∀ d ∈ rs.map pairD, noL d = true := fun d hd => (one d hd).2.2.2.2.2
    generalize rs.map pairD = ds at hd
    induction ds with
    | nil => rfl
    | cons d r ih =>
      show (noL d && noLs r) = true
      rw [hd d List.mem_cons_self, ih fun e he => hd e (List.mem_cons_of_mem _ he)]; rfl
theorem noLs_all : ∀ {ds : List PyData}, (∀ d ∈ ds, noL d = true) → noLs ds = true
  | [], _ => rfl
  | d :: r, h => by
    show (noL d && noLs r) = true
    rw [h d List.mem_cons_self, noLs_all fun e he => h e (List.mem_cons_of_mem _ he)]; rfl
theorem hasD_all : ∀ {ds : List PyData}, (∀ d ∈ ds, d.hasDict = false) → PyData.hasDictAll ds = false
  | [], _ => by simp [PyData.hasDictAll]
  | d :: r, h => by simp [PyData.hasDictAll, h d List.mem_cons_self, hasD_all fun e he => h e (List.mem_cons_of_mem _ he)]
theorem topL_mix {ds : List PyData} {o : PyData} (ho : o.hasDict = false ∨ noL o = true) (h : ∀ d ∈ ds, (d.hasDict = false ∧ noL d = true) ∨ d = o) : topL (.tuple ds) = true := by
  show (!(PyData.tuple ds).hasDict || noLs ds) = true
  rcases ho with ho | ho
  · rw [show (PyData.tuple ds).hasDict = false by
      simp only [PyData.hasDict]
      exact hasD_all fun d hd => (h d hd).elim (·.1) (fun e => e ▸ ho)]; rfl
  · rw [noLs_all fun d hd => (h d hd).elim (·.2) (fun e => e ▸ ho)]; simp
/-! ### a tuple many times (more than 1000) -/
def rRepTB (K : PySem.W.Frag) : R2 := fun x y H Q => ∃ l k xs, x = .ref l ∧ y = .int k ∧ SqT K H l xs ∧ xs ≠ [] ∧ 2 ≤ k ∧ k ≤ 5000 ∧ xs.length ≤ 100 ∧ ∀ p, H p = none → Q (.ref p) (upd H p (.tup (List.replicate k.toNat xs).flatten))
section
variable {X : Cx}
theorem op_repTB : OpR X (binaryOp .Mult) (rRepTB X.K) := by
  intro pins s σ H x y v u Q I rx ry h
  obtain ⟨l, k, xs, rfl, rfl, hT, hne, h1, h2, hz, q⟩ := h
  cases rx
  obtain ⟨t, rfl⟩ := ry
  obtain ⟨its, r, ⟨⟨cls, dd, data, sl⟩, ho, hc, n, hd⟩, hs⟩ := I.tuple hT
  simp only at hc hd
  subst hc hd
  have hle : its.length = xs.length := r.length.symm
  have hn : its ≠ [] := fun e => hne (by
    rw [e] at hle
    exact List.eq_nil_of_length_eq_zero hle.symm)
  have hi : its.toArray.isEmpty = false := by
    cases its with
    | nil => exact absurd rfl hn
    | cons a b => rfl
  have hsz0 : its.toArray.size = xs.length := by rw [List.size_toArray, hle]
  have hm : ((its.toArray.size : Nat) : Int) * k ≤ 1000000 := by
    rw [hsz0]
    have a1 : ((xs.length : Nat) : Int) * k ≤ 100 * k := Int.mul_le_mul_of_nonneg_right (by omega) (by omega)
    omega
  have flen : (List.replicate k.toNat its).flatten.length ≤ sizeLine := by
    rw [PyProof.Rows.lm_len_rep_flat, hle, sizeLine_eq]
    have a1 : k.toNat * xs.length ≤ 5000 * 100 := Nat.mul_le_mul (by omega) hz
    omega
  have c0 : (decide (k < -(2 ^ 63)) || decide (k ≥ 2 ^ 63)) = false := by
    rw [decide_eq_false (by omega), decide_eq_false (by omega)] <;> rfl
  have c1 : (its.toArray.isEmpty || k == 1) = false := by
    rw [hi, Bool.false_or]
    exact beq_eq_false_iff_ne.mpr (by omega)
  have c2 : (decide (k ≤ 0) || its.toArray.isEmpty) = false := by
    rw [hi, Bool.or_false]
    exact decide_eq_false (by omega)
  have c4 : Builtin.Tuple.tupleTooMany (((its.toArray.size : Nat) : Int) * k) = false := by
    unfold Builtin.Tuple.tupleTooMany
    rw [sizeLine_eq]
    exact decide_eq_false (by omega)
  refine wpAny_binaryOp_repeat_ref (T := "tuple") (U := "int") (by decide) ⟨_, ho, rfl⟩ (fun s' => typeIs_int s' k t) noFill_tuple_mul F.fills_int_mul F.slot_int_rmul repeat_tuple F.slot_int_index.lookup
    (call_meets F.slot_int_rmul (typeIs_int s k t) F.entry_int_rmul (F.args_int_rmul_2 _ _) (int_rmul_tuple k t l its.toArray n dd sl)
      ⟨ho, rfl, ⟨_, ho, rfl⟩, call_meets F.slot_tuple_mul ⟨_, ho, rfl⟩ F.entry_tuple_mul (F.args_tuple_mul_2 _ _) (tuple_mulW l its.toArray n dd sl k t c0 c1 c2 (by omega) c4 (by rw [size_rep, List.size_toArray]; exact flen)) ⟨ho, ?_⟩⟩)
  rw [size_rep]
  refine ⟨.ref s.heap.objs.size, _, I.laid (t' := s.toks) (o := .tup (List.replicate k.toNat xs).flatten) (fun b ob q => Heap.get?_push_of_some _ q) (Nat.le_refl _) ?_, rfl, q _ (I.hok.fresh (Nat.le_refl _))⟩
  exact ⟨by rw [PyProof.Rows.lm_len_rep_flat, sizeLine_eq]; have a1 : k.toNat * xs.length ≤ 5000 * 100 := Nat.mul_le_mul (by omega) hz; omega, _, r.rep k.toNat, IsTup.new _ _⟩
end
theorem k_repTB {X : Cx} (K : PySem.W.Frag) (h : X.K = K := by rfl) : OpR X (binaryOp .Mult) (rRepTB K) := by subst h; exact op_repTB
theorem gd_repB {K : PySem.W.Frag} {σ : L2.St} {H : Hp} {ta : TE} {ds : List PyData} {n : Nat} (h1 : GivesD K σ H ta (.tuple ds)) (h0 : ds ≠ []) (hn : 2 ≤ n) (hn2 : n ≤ 5000) (hl : ds.length ≤ 100) : GivesD K σ H (tOp (rRepTB K) ta (tC (.int (n : Nat)))) (.tuple (List.replicate n ds).flatten) := fun H0 s Q k => h1 H0 s _ fun v H1 s1 d1 => by
  obtain ⟨a, xs, rfl, hs, hx⟩ := dx_tup_inv d1
  have hl2 := dxs_len hx
  refine ⟨a, _, xs, rfl, rfl, hs, ?_, by omega, by omega, by omega, fun p hp => ?_⟩
  · intro e
    rw [e] at hl2
    exact h0 (List.eq_nil_of_length_eq_zero hl2.symm)
  · refine k _ _ (s1.trans (same_new hp)) (.tup (SqT.of upd_same) ?_)
    exact dxs_same (same_new hp) (dxs_rep hx n)
end TP

/-! literals: a tuple of a comprehension over a text -/
namespace TP
open PySem PySem.Spec PyProof.Rows L2 LamX
section
variable {J : It} {n : Nat} {G : Hp → Prop} {Y : Nat → Hp → V → Hp → Prop} {g : TG} {te : TE} {vs : List Nat} {σ : L2.St} {H1 : Hp} {D : Addr} {Q : VK}
theorem lc_noL (K : PySem.W.Frag) (w : Walk J n G Y) (hn : n ≤ 100000) (R : Nat → PyData → Prop) (hD : H1 D = none) (hG : ∀ H, Same H1 H → G H)
    (hs : ∀ i x H H', i < n → Same H1 H → Y i H x H' → ∀ Qy : VK, (∀ y d H4, Same H H4 → Dx K H4 y d → noL d = true → R i d → Qy y H4) → g x (wipe σ vs) H' fun σ2 H2 => wipe σ2 vs = wipe σ vs ∧ te σ2 H2 Qy)
    (hd : ∀ acc ds H, Same H1 H → H1 D = none → H D = some (.lst acc) → DxAll K H acc ds → ds.length = n → (∀ i d, ds[i]? = some d → R i d) → Q (.ref D) H)
    (mono : ∀ {x σ H} {Q Q' : L2.St → Hp → Prop}, (∀ σ H, Q σ H → Q' σ H) → g x σ H Q → g x σ H Q') : LcOk J g tYes te vs σ H1 D Q := by
  let Acc : Nat → List V → Hp → Prop := fun i acc H => ∃ ds, DxAll K H acc ds ∧ noLs ds = true ∧ ds.length = i ∧ ∀ (j : Nat) (d : PyData), ds[j]? = some d → R j d
  refine lc_go w Acc hD hG ⟨[], .nil, rfl, rfl, fun j d e => by simp at e⟩ (fun i x H H' acc hi s e l a hy => ?_) fun acc H s e _ ⟨ds, h1, h2, h3, h4⟩ => hd acc ds H s hD e h1 h3 h4
  obtain ⟨ds, h1, h2, h3, h4⟩ := a
  refine mono (fun σ2 H2 q => ⟨q.1, w_yes (w_iteT q.2)⟩) (hs i x H H' hi s hy (fun y H4 => LcY H1 D Acc i y H4) fun y d H4 s4 dy fl ry => ?_)
  have e4 := s4 _ _ e
  refine lc_y (Acc := Acc) hD (s.trans s4) e4 l (by omega) ⟨ds ++ [d], ?_, ?_, by simp [h3], fun j z ej => ?_⟩
  · have st : SameM H4 (upd H4 D (.lst (acc ++ [y]))) := SameM.lst e4
    exact dxs_snoc (dxs_m st (dxs_same s4 h1) h2) (dx_m st dy fl)
  · refine noLs_all fun e he => ?_
    rcases List.mem_append.mp he with he | he
    · have all : ∀ {l : List PyData}, noLs l = true → ∀ e ∈ l, noL e = true := fun {l} => by
        induction l with
        | nil => intro _ e he; cases he
        | cons a r ih =>
          intro h e he
          have h2 := Bool.and_eq_true_iff.mp (show (noL a && noLs r) = true from h)
          rcases List.mem_cons.mp he with rfl | he
          · exact h2.1
          · exact ih h2.2 e he
      exact all h2 e he
    · rw [List.mem_singleton.mp he]; exact fl
  · by_cases q : j < ds.length
    · rw [List.getElem?_append_left q] at ej; exact h4 j z ej
    · rw [List.getElem?_append_right (Nat.le_of_not_lt q)] at ej
      have q2 : j = ds.length := by
        obtain ⟨h1, _⟩ := List.getElem?_eq_some_iff.mp ej
        simp at h1; omega
      subst q2
      simp at ej
      subst ej
      rw [h3]; exact ry
end
section
variable {K : PySem.W.Frag} {σ : L2.St} {H : Hp} {te elt : TE} {vs : List Nat} {j : Nat} {z : Str}
theorem gd_lcS {f : Str → PyData} (hz : GivesD K σ H te (.str z)) (hl : z.length ≤ 100000) (hn : ∀ c, noL (f c) = true)
    (hw : ∀ c : Str, wipe ((wipe σ vs).set j (some (.str c))) vs = wipe σ vs)
    (he : ∀ (c : Str) (H' : Hp), GivesD K ((wipe σ vs).set j (some (.str c))) H' elt (f c)) :
    GivesD K σ H (tCB (rTupS K) (tCons (tLc (iStr te) (gName j) tYes elt vs) tNil)) (.tuple ((signs1 z).map f)) := fun H0 s Q k => hz H0 s _ fun v H1 s1 d1 => by
  cases dx_str_inv d1
  refine ⟨z, rfl, fun D hD => ?_⟩
  show LcOk (Its z) (gName j) tYes elt vs σ H1 D fun x H1 => rTupS K [x] H1 Q
  refine lc_noL K walk_str (by have : z.length = z.cps.size := rfl; omega) (fun i d => ∃ c, (signs1 z)[i]? = some c ∧ d = f c) hD (fun _ _ => trivial) ?_ ?_ mono_gname
  · rintro i y G1 G2 hi sg ⟨rfl, ch, hch, rfl⟩ Qy hq
    refine w_gname ⟨hw _, ?_⟩
    refine he ⟨#[ch]⟩ G2 G2 (Same.refl _) _ fun v H' s' d' => hq v _ H' s' d' (hn _) ⟨⟨#[ch]⟩, ?_, rfl⟩
    unfold signs1
    rw [List.getElem?_map, Array.getElem?_toList, hch]; rfl
  intro acc ds H2 s2 _ hacc hdx hdl hR
  have eds : ds = (signs1 z).map f := ds_eq (by rw [hdl]; unfold signs1; rw [List.length_map, Array.length_toList]) hR
  rw [eds] at hdx
  refine w_tupL (SqL.of hacc) fun T hT => ?_
  exact k _ _ ((s1.trans s2).trans (same_new hT)) (.tup (SqT.of upd_same) (dxs_same (same_new hT) hdx))
theorem gd_slc {i : Int} (hz : GivesD K σ H te (.str z)) (hl : z.length ≤ 100000) : GivesD K σ H (L2.tSl rSlS te tNoPart (tPart (tC (.int i)))) (.str (cutS z none (some i))) := fun H0 s Q k => hz H0 s _ fun v H1 s1 d1 => by
  cases dx_str_inv d1
  exact ⟨i, rfl, w_slS (sz_le hl) (k _ _ s1 (.str _))⟩
end
end TP


namespace TP
open PySem PySem.Spec PyProof.Rows L2 LamX
local macro_rules | `(tactic| tm_at "side") => `(tactic| first | decide | omega | assumption | (unfold CMul; omega) | (unfold CDiv; omega) | (unfold CPow; omega))
local macro_rules | `(tactic| tm_at "heap") => `(tactic| first | assumption | exact upd_same | (refine hp_new ?_ (by assumption); tm_at "heap") | (refine hp_same (by assumption) ?_; tm_at "heap"))
local macro_rules | `(tactic| tm_at "same") => `(tactic| first | assumption | exact Same.refl _ | (refine same_step ?_ (by assumption); tm_at "same") | (refine Same.trans ?_ (by assumption); tm_at "same"))
local macro_rules | `(tactic| tm_at "sqt") => `(tactic| first | assumption | (refine SqT.of ?_; tm_at "heap") | (refine sqt_same (same_new (by assumption)) ?_; tm_at "sqt") | (refine sqt_same (by assumption) ?_; tm_at "sqt"))
local macro_rules | `(tactic| tm_at "sql") => `(tactic| first | assumption | (refine SqL.of ?_; tm_at "heap") | (refine Same.seq (same_new (by assumption)) ?_; tm_at "sql") | (refine Same.seq (by assumption) ?_; tm_at "sql"))
local macro_rules | `(tactic| tm_at "dp") => `(tactic| first | assumption | exact Dp.int _ | exact Dp.str _ | exact Dp.bl _ | exact Dp.non | (refine dp_same (same_new (by assumption)) ?_; tm_at "dp") | (refine dp_same (by assumption) ?_; tm_at "dp"))
local macro_rules | `(tactic| tm_at "sumo") => `(tactic| first | assumption | (refine sum_same (same_new (by assumption)) ?_; tm_at "sumo") | (refine sum_same (by assumption) ?_; tm_at "sumo"))
local macro_rules | `(tactic| tm_at "h") => `(tactic| with_reducible first | (exact SqL.of (by with_reducible_and_instances tm_at "heap")) | tm_at "heap" | tm_at "dp" | tm_at "sumo" | tm_at "sql" | tm_at "sqt" | tm_at "same")
local macro_rules | `(tactic| tm_at "wp1") => `(tactic| with_reducible first
  | refine w_seq ?_ | refine w_asg ?_ | refine w_c ?_ | refine w_op ?_ | refine w_cons ?_ | refine w_nil ?_ | refine w_gname ?_ | refine w_nx ?_ | refine w_rt ?_ | refine w_I0 ?_
  | refine w_eqI ?_ | refine w_neI ?_ | refine w_eqS ?_ | refine w_neS ?_ | refine w_neBl ?_ | refine w_eqBl ?_ | refine w_CB ?_ | refine w_call ?_ | refine w_tcallW ?_ | refine w_bl ?_ | refine w_ret ?_ | refine w_retN ?_ | refine w_ifS ?_
  | refine w_test ?_ | refine w_B ?_ | refine w_andV ?_ | refine w_orV ?_ | refine w_notV ?_ | refine w_if ?_ | refine w_and ?_ | refine w_or ?_ | refine w_not ?_ | refine w_chain ?_ | refine w_iteT ?_ | refine w_iteF ?_ | refine w_nott ?_ | refine w_notf ?_
  | refine w_next ?_ | refine w_tup ?_ | refine w_lst ?_ | refine w_gcons ?_ | refine w_gnil ?_ | refine w_gsub ?_ | refine w_drop ?_ | refine w_tpar ?_ | refine w_tpar3 ?_ | refine w_p2 ?_ | refine w_p3 ?_ | refine w_un ?_ | refine w_U ?_
  | refine w_break ?_ | refine w_cont ?_ | refine w_bk ?_ | refine w_ct ?_ | refine w_isB ?_ | refine w_notB ?_ | refine w_BM ?_ | refine w_BM0 ?_ | refine w_sl ?_ | refine w_nopart ?_ | refine w_tpart ?_ | refine w_intC ?_ | refine w_M1 ?_ | refine w_strx ?_
  | refine w_for ?_ | refine w_lc ?_ | refine w_yes ?_ | refine w_iTup ?_ | refine w_iList ?_ | refine w_iStr ?_ | refine w_iRng1 ?_ | refine w_iRng2 ?_ | refine w_iEnumT ?_ | refine w_onS ?_
  | refine w_abs ?_ | refine w_mx3 ?_ | refine w_mn3 ?_ | refine w_iZip ?_ | refine w_sc ?_ | refine w_mx2 ?_ | refine w_mn2 ?_ | refine w_int1 ?_ | refine w_intB ?_ | refine w_inSign ?_ | refine w_notInSign ?_ | refine w_isNN ?_ | refine w_isNI ?_ | refine w_isNR ?_ | refine w_isN ?_ | refine w_notNN ?_ | refine w_notNI ?_ | refine w_notNR ?_ | refine w_notN ?_ | refine w_ltS ?_ | refine w_leS ?_
  | refine w_fmt ?_ | refine w_joined ?_ | refine w_jcons ?_ | refine w_jnil ?_ | refine w_strS ?_ | refine w_orT ?_ | refine w_andT ?_ | refine w_dput ?_ | refine w_ckw ?_ | refine w_fldN ?_ | refine w_sfld ?_ | refine w_mtN ?_ | refine w_mkN ?_ | refine w_din ?_ | refine w_dnotin ?_ | refine w_iKeys ?_ | refine w_dc ?_ | refine w_whc ?_ | refine w_dget ?_ | refine w_tru ?_ | refine w_truB ?_ | refine w_truI ?_ | refine w_stepT2 ?_ | refine w_dget2 ?_ | refine w_ddel ?_ | refine w_daug ?_ | refine w_dpop1 ?_ | refine w_revL ?_ | refine w_ipI ?_
  | (refine' w_var ?h1 ?_; (case h1 => (with_unfolding_all exact rfl)))
  | (refine' w_aug ?h1 ?_; (case h1 => (with_unfolding_all exact rfl)))
  | (refine w_I ?h1 ?_; (try (case h1 => (with_unfolding_all tm_at "side"))))
  | (refine w_allocT ?h1 ?_; (case h1 => (with_unfolding_all exact rfl)); intro p hp) | (refine w_allocL ?h1 ?_; (case h1 => (with_unfolding_all exact rfl)); intro p hp)
  | (refine w_dnewK ?_; intro p hp)
  | (refine w_lenC ?h1 ?h2 ?_; (case h1 => (with_unfolding_all exact rfl)); (case h2 => (with_unfolding_all exact rfl)))
  | (refine w_kwC ?h1 ?h2 ?_; (case h1 => (with_unfolding_all exact rfl)); (case h2 => (with_unfolding_all exact rfl))))
local macro_rules | `(tactic| tm_at "wp") => `(tactic| repeat' (tm_at "wp1"))
local macro_rules | `(tactic| tm_at "wq1") => `(tactic| with_reducible first
  | refine w_asg ?_ | refine w_c ?_ | refine w_op ?_ | refine w_cons ?_ | refine w_nil ?_ | refine w_gname ?_ | refine w_nx ?_ | refine w_rt ?_ | refine w_I0 ?_
  | refine w_eqI ?_ | refine w_neI ?_ | refine w_eqS ?_ | refine w_neS ?_ | refine w_neBl ?_ | refine w_eqBl ?_ | refine w_CB ?_ | refine w_call ?_ | refine w_tcallW ?_ | refine w_bl ?_ | refine w_ret ?_ | refine w_retN ?_ | refine w_ifS ?_
  | refine w_test ?_ | refine w_B ?_ | refine w_andV ?_ | refine w_orV ?_ | refine w_notV ?_ | refine w_if ?_ | refine w_and ?_ | refine w_or ?_ | refine w_not ?_ | refine w_chain ?_ | refine w_iteT ?_ | refine w_iteF ?_ | refine w_nott ?_ | refine w_notf ?_
  | refine w_next ?_ | refine w_tup ?_ | refine w_lst ?_ | refine w_gcons ?_ | refine w_gnil ?_ | refine w_gsub ?_ | refine w_drop ?_ | refine w_tpar ?_ | refine w_tpar3 ?_ | refine w_p2 ?_ | refine w_p3 ?_ | refine w_un ?_ | refine w_U ?_
  | refine w_break ?_ | refine w_cont ?_ | refine w_bk ?_ | refine w_ct ?_ | refine w_isB ?_ | refine w_notB ?_ | refine w_BM ?_ | refine w_BM0 ?_ | refine w_sl ?_ | refine w_nopart ?_ | refine w_tpart ?_ | refine w_intC ?_ | refine w_M1 ?_ | refine w_strx ?_
  | refine w_for ?_ | refine w_lc ?_ | refine w_yes ?_ | refine w_iTup ?_ | refine w_iList ?_ | refine w_iStr ?_ | refine w_iRng1 ?_ | refine w_iRng2 ?_ | refine w_iEnumT ?_ | refine w_onS ?_
  | refine w_abs ?_ | refine w_mx3 ?_ | refine w_mn3 ?_ | refine w_iZip ?_ | refine w_sc ?_ | refine w_mx2 ?_ | refine w_mn2 ?_ | refine w_int1 ?_ | refine w_intB ?_ | refine w_inSign ?_ | refine w_notInSign ?_ | refine w_isNN ?_ | refine w_isNI ?_ | refine w_isNR ?_ | refine w_isN ?_ | refine w_notNN ?_ | refine w_notNI ?_ | refine w_notNR ?_ | refine w_notN ?_ | refine w_ltS ?_ | refine w_leS ?_
  | refine w_fmt ?_ | refine w_joined ?_ | refine w_jcons ?_ | refine w_jnil ?_ | refine w_strS ?_ | refine w_orT ?_ | refine w_andT ?_ | refine w_dput ?_ | refine w_ckw ?_ | refine w_fldN ?_ | refine w_sfld ?_ | refine w_mtN ?_ | refine w_mkN ?_ | refine w_din ?_ | refine w_dnotin ?_ | refine w_iKeys ?_ | refine w_dc ?_ | refine w_whc ?_ | refine w_dget ?_ | refine w_tru ?_ | refine w_truB ?_ | refine w_truI ?_ | refine w_stepT2 ?_ | refine w_dget2 ?_ | refine w_ddel ?_ | refine w_daug ?_ | refine w_dpop1 ?_ | refine w_revL ?_ | refine w_ipI ?_
  | (refine' w_var ?h1 ?_; (case h1 => (with_unfolding_all exact rfl)))
  | (refine' w_aug ?h1 ?_; (case h1 => (with_unfolding_all exact rfl)))
  | (refine w_I ?h1 ?_; (try (case h1 => (with_unfolding_all tm_at "side"))))
  | (refine w_allocT ?h1 ?_; (case h1 => (with_unfolding_all exact rfl)); intro p hp) | (refine w_allocL ?h1 ?_; (case h1 => (with_unfolding_all exact rfl)); intro p hp)
  | (refine w_dnewK ?_; intro p hp)
  | (refine w_lenC ?h1 ?h2 ?_; (case h1 => (with_unfolding_all exact rfl)); (case h2 => (with_unfolding_all exact rfl)))
  | (refine w_kwC ?h1 ?h2 ?_; (case h1 => (with_unfolding_all exact rfl)); (case h2 => (with_unfolding_all exact rfl))))
local macro_rules | `(tactic| tm_at "wq") => `(tactic| repeat' (tm_at "wq1"))
local macro_rules | `(tactic| tm_at "wx") => `(tactic| with_reducible repeat' (first | refine w_gname ?_ | refine w_next ?_ | refine w_nx ?_))
local macro_rules | `(tactic| tm_at "held") => `(tactic| first | assumption | (refine held_same (by assumption) ?_; tm_at "held"))
local macro_rules | `(tactic| tm_at "wk") => `(tactic| repeat' (first | (refine w_allocLG ?h1 ?_; (case h1 => (with_unfolding_all exact rfl)); intro p G sg hp) | tm_at "wp1" | (refine w_isP (by assumption) (by assumption) (by tm_at "held") (by decide +kernel) ?_)))
local macro_rules | `(tactic| tm_at "vp1") => `(tactic| with_reducible first
  | refine w_seq ?_ | refine w_asg ?_ | refine w_c ?_ | refine w_op ?_ | refine w_cons ?_ | refine w_nil ?_ | refine w_gnameN (by first | (with_reducible_and_instances simp only [List.set_cons_zero, List.set_cons_succ]; apply Eq.refl) | apply Eq.refl) ?_ | refine w_gname ?_ | refine w_setN (by first | (with_reducible_and_instances simp only [List.set_cons_zero, List.set_cons_succ]; apply Eq.refl) | apply Eq.refl) ?_ | refine w_I0 ?_
  | refine w_eqI ?_ | refine w_neI ?_ | refine w_eqS ?_ | refine w_neS ?_ | refine w_neBl ?_ | refine w_eqBl ?_ | refine w_CB ?_ | refine w_call ?_ | refine w_tcallW ?_ | refine w_bl ?_ | refine w_ret ?_ | refine w_retN ?_ | refine w_ifS ?_
  | refine w_test ?_ | refine w_B ?_ | refine w_andV ?_ | refine w_orV ?_ | refine w_notV ?_ | refine w_if ?_ | refine w_and ?_ | refine w_or ?_ | refine w_not ?_ | refine w_chain ?_ | refine w_iteT ?_ | refine w_iteF ?_ | refine w_nott ?_ | refine w_notf ?_
  | refine w_next ?_ | refine w_tup ?_ | refine w_lst ?_ | refine w_gcons ?_ | refine w_gnil ?_ | refine w_gsub ?_ | refine w_drop ?_ | refine w_tparN ?_ | refine w_tpar3N ?_ | refine w_tpar ?_ | refine w_tpar3 ?_ | refine w_p2 ?_ | refine w_p3 ?_ | refine w_un ?_ | refine w_U ?_
  | refine w_break ?_ | refine w_cont ?_ | refine w_isB ?_ | refine w_notB ?_ | refine w_BM ?_ | refine w_BM0 ?_ | refine w_sl ?_ | refine w_nopart ?_ | refine w_tpart ?_ | refine w_intC ?_ | refine w_M1 ?_ | refine w_strx ?_
  | refine w_for ?_ | refine w_lc ?_ | refine w_yes ?_ | refine w_iTup ?_ | refine w_iList ?_ | refine w_iStr ?_ | refine w_iRng1 ?_ | refine w_iRng2 ?_ | refine w_iEnumT ?_ | refine w_onS ?_
  | refine w_abs ?_ | refine w_mx3 ?_ | refine w_mn3 ?_ | refine w_iZip ?_ | refine w_sc ?_ | refine w_mx2 ?_ | refine w_mn2 ?_ | refine w_int1 ?_ | refine w_intB ?_ | refine w_inSign ?_ | refine w_notInSign ?_ | refine w_isNN ?_ | refine w_isNI ?_ | refine w_isNR ?_ | refine w_isN ?_ | refine w_notNN ?_ | refine w_notNI ?_ | refine w_notNR ?_ | refine w_notN ?_ | refine w_ltS ?_ | refine w_leS ?_
  | refine w_fmt ?_ | refine w_joined ?_ | refine w_jcons ?_ | refine w_jnil ?_ | refine w_strS ?_ | refine w_orT ?_ | refine w_andT ?_ | refine w_dput ?_ | refine w_ckw ?_ | refine w_fldN ?_ | refine w_sfld ?_ | refine w_mtN ?_ | refine w_mkN ?_ | refine w_din ?_ | refine w_dnotin ?_ | refine w_iKeys ?_ | refine w_dc ?_ | refine w_whc ?_ | refine w_dget ?_ | refine w_tru ?_ | refine w_truB ?_ | refine w_truI ?_ | refine w_stepT2 ?_ | refine w_dget2 ?_ | refine w_ddel ?_ | refine w_daug ?_ | refine w_dpop1 ?_ | refine w_revL ?_ | refine w_ipI ?_
  | (refine' w_var ?h1 ?_; (case h1 => (with_unfolding_all exact rfl)))
  | (refine' w_augN ?h1 ?_; (case h1 => (with_unfolding_all exact rfl))) | (refine' w_aug ?h1 ?_; (case h1 => (with_unfolding_all exact rfl)))
  | (refine w_I ?h1 ?_; (try (case h1 => (with_unfolding_all tm_at "side"))))
  | (refine w_allocT ?h1 ?_; (case h1 => (with_unfolding_all exact rfl)); intro p hp) | (refine w_allocL ?h1 ?_; (case h1 => (with_unfolding_all exact rfl)); intro p hp)
  | (refine w_dnewK ?_; intro p hp)
  | (refine w_lenC ?h1 ?h2 ?_; (case h1 => (with_unfolding_all exact rfl)); (case h2 => (with_unfolding_all exact rfl)))
  | (refine w_kwC ?h1 ?h2 ?_; (case h1 => (with_unfolding_all exact rfl)); (case h2 => (with_unfolding_all exact rfl))))
local macro_rules | `(tactic| tm_at "vp") => `(tactic| repeat' (tm_at "vp1"))
local macro_rules | `(tactic| tm_at "vq1") => `(tactic| with_reducible first
  | refine w_asg ?_ | refine w_c ?_ | refine w_op ?_ | refine w_cons ?_ | refine w_nil ?_ | refine w_gnameN (by first | (with_reducible_and_instances simp only [List.set_cons_zero, List.set_cons_succ]; apply Eq.refl) | apply Eq.refl) ?_ | refine w_gname ?_ | refine w_setN (by first | (with_reducible_and_instances simp only [List.set_cons_zero, List.set_cons_succ]; apply Eq.refl) | apply Eq.refl) ?_ | refine w_I0 ?_
  | refine w_eqI ?_ | refine w_neI ?_ | refine w_eqS ?_ | refine w_neS ?_ | refine w_neBl ?_ | refine w_eqBl ?_ | refine w_CB ?_ | refine w_call ?_ | refine w_tcallW ?_ | refine w_bl ?_ | refine w_ret ?_ | refine w_retN ?_ | refine w_ifS ?_
  | refine w_test ?_ | refine w_B ?_ | refine w_andV ?_ | refine w_orV ?_ | refine w_notV ?_ | refine w_if ?_ | refine w_and ?_ | refine w_or ?_ | refine w_not ?_ | refine w_chain ?_ | refine w_iteT ?_ | refine w_iteF ?_ | refine w_nott ?_ | refine w_notf ?_
  | refine w_next ?_ | refine w_tup ?_ | refine w_lst ?_ | refine w_gcons ?_ | refine w_gnil ?_ | refine w_gsub ?_ | refine w_drop ?_ | refine w_tparN ?_ | refine w_tpar3N ?_ | refine w_tpar ?_ | refine w_tpar3 ?_ | refine w_p2 ?_ | refine w_p3 ?_ | refine w_un ?_ | refine w_U ?_
  | refine w_break ?_ | refine w_cont ?_ | refine w_isB ?_ | refine w_notB ?_ | refine w_BM ?_ | refine w_BM0 ?_ | refine w_sl ?_ | refine w_nopart ?_ | refine w_tpart ?_ | refine w_intC ?_ | refine w_M1 ?_ | refine w_strx ?_
  | refine w_for ?_ | refine w_lc ?_ | refine w_yes ?_ | refine w_iTup ?_ | refine w_iList ?_ | refine w_iStr ?_ | refine w_iRng1 ?_ | refine w_iRng2 ?_ | refine w_iEnumT ?_ | refine w_onS ?_
  | refine w_abs ?_ | refine w_mx3 ?_ | refine w_mn3 ?_ | refine w_iZip ?_ | refine w_sc ?_ | refine w_mx2 ?_ | refine w_mn2 ?_ | refine w_int1 ?_ | refine w_intB ?_ | refine w_inSign ?_ | refine w_notInSign ?_ | refine w_isNN ?_ | refine w_isNI ?_ | refine w_isNR ?_ | refine w_isN ?_ | refine w_notNN ?_ | refine w_notNI ?_ | refine w_notNR ?_ | refine w_notN ?_ | refine w_ltS ?_ | refine w_leS ?_
  | refine w_fmt ?_ | refine w_joined ?_ | refine w_jcons ?_ | refine w_jnil ?_ | refine w_strS ?_ | refine w_orT ?_ | refine w_andT ?_ | refine w_dput ?_ | refine w_ckw ?_ | refine w_fldN ?_ | refine w_sfld ?_ | refine w_mtN ?_ | refine w_mkN ?_ | refine w_din ?_ | refine w_dnotin ?_ | refine w_iKeys ?_ | refine w_dc ?_ | refine w_whc ?_ | refine w_dget ?_ | refine w_tru ?_ | refine w_truB ?_ | refine w_truI ?_ | refine w_stepT2 ?_ | refine w_dget2 ?_ | refine w_ddel ?_ | refine w_daug ?_ | refine w_dpop1 ?_ | refine w_revL ?_ | refine w_ipI ?_
  | (refine' w_var ?h1 ?_; (case h1 => (with_unfolding_all exact rfl)))
  | (refine' w_augN ?h1 ?_; (case h1 => (with_unfolding_all exact rfl))) | (refine' w_aug ?h1 ?_; (case h1 => (with_unfolding_all exact rfl)))
  | (refine w_I ?h1 ?_; (try (case h1 => (with_unfolding_all tm_at "side"))))
  | (refine w_allocT ?h1 ?_; (case h1 => (with_unfolding_all exact rfl)); intro p hp) | (refine w_allocL ?h1 ?_; (case h1 => (with_unfolding_all exact rfl)); intro p hp)
  | (refine w_dnewK ?_; intro p hp)
  | (refine w_lenC ?h1 ?h2 ?_; (case h1 => (with_unfolding_all exact rfl)); (case h2 => (with_unfolding_all exact rfl)))
  | (refine w_kwC ?h1 ?h2 ?_; (case h1 => (with_unfolding_all exact rfl)); (case h2 => (with_unfolding_all exact rfl))))
local macro_rules | `(tactic| tm_at "vq") => `(tactic| repeat' (tm_at "vq1"))
local macro_rules | `(tactic| tm_at "vx") => `(tactic| with_reducible repeat' (first | refine w_gnameN (by first | (with_reducible_and_instances simp only [List.set_cons_zero, List.set_cons_succ]; apply Eq.refl) | apply Eq.refl) ?_ | refine w_gname ?_ | refine w_setN (by first | (with_reducible_and_instances simp only [List.set_cons_zero, List.set_cons_succ]; apply Eq.refl) | apply Eq.refl) ?_ | refine w_next ?_))
local macro_rules | `(tactic| tm_at "gd") => `(tactic| repeat (first | exact gd_int | exact gd_neg | exact gd_str | exact gd_bl | exact gd_non | exact gd_dct | exact gd_pow (by unfold CPow; decide) | exact gd_var (by with_unfolding_all exact rfl) (.str _) | exact ga_nil | refine ga_cons ?_ ?_ | refine gd_tup ?_ rfl | refine gl_lst ?_ rfl | refine gl_d ?_))
abbrev N_is_whole : List Str := ["thing"]
theorem sc_is_whole : FnScope N_is_whole ["thing"] (defScope s_is_whole) := ⟨rfl, rfl, rfl, by decide +kernel, rfl, by decide +kernel, by decide +kernel⟩
theorem pb_is_whole : PosB "is_whole" s_is_whole ["thing"] := fun _ _ _ _ _ _ us hl => match us, hl with | [_], _ => rfl
abbrev N_is_from : List Str := ["thing", "least"]
theorem sc_is_from : FnScope N_is_from ["thing", "least"] (defScope s_is_from) := ⟨rfl, rfl, rfl, by decide +kernel, rfl, by decide +kernel, by decide +kernel⟩
theorem pb_is_from : PosB "is_from" s_is_from ["thing", "least"] := fun _ _ _ _ _ _ us hl => match us, hl with | [_, _], _ => rfl
abbrev N_is_name : List Str := ["thing", "letter"]
theorem sc_is_name : FnScope N_is_name ["thing"] (defScope s_is_name) := ⟨rfl, rfl, rfl, by decide +kernel, rfl, by decide +kernel, by decide +kernel⟩
theorem pb_is_name : PosB "is_name" s_is_name ["thing"] := fun _ _ _ _ _ _ us hl => match us, hl with | [_], _ => rfl
abbrev N_is_run : List Str := ["thing"]
theorem sc_is_run : FnScope N_is_run ["thing"] (defScope s_is_run) := ⟨rfl, rfl, rfl, by decide +kernel, rfl, by decide +kernel, by decide +kernel⟩
theorem pb_is_run : PosB "is_run" s_is_run ["thing"] := fun _ _ _ _ _ _ us hl => match us, hl with | [_], _ => rfl
abbrev N_table_of : List Str := ["pairs", "found", "name", "count"]
theorem sc_table_of : FnScope N_table_of ["pairs"] (defScope s_table_of) := ⟨rfl, rfl, rfl, by decide +kernel, rfl, by decide +kernel, by decide +kernel⟩
theorem pb_table_of : PosB "table_of" s_table_of ["pairs"] := fun _ _ _ _ _ _ us hl => match us, hl with | [_], _ => rfl
abbrev N_counts_of_table : List Str := ["table", "name"]
theorem sc_counts_of_table : FnScope N_counts_of_table ["table"] (defScope s_counts_of_table) := ⟨rfl, rfl, rfl, by decide +kernel, rfl, by decide +kernel, by decide +kernel⟩
theorem pb_counts_of_table : PosB "counts_of_table" s_counts_of_table ["table"] := fun _ _ _ _ _ _ us hl => match us, hl with | [_], _ => rfl
abbrev N_first_no_order : List Str := ["thing", "names", "index", "run"]
theorem sc_first_no_order : FnScope N_first_no_order ["thing"] (defScope s_first_no_order) := ⟨rfl, rfl, rfl, by decide +kernel, rfl, by decide +kernel, by decide +kernel⟩
theorem pb_first_no_order : PosB "first_no_order" s_first_no_order ["thing"] := fun _ _ _ _ _ _ us hl => match us, hl with | [_], _ => rfl
abbrev N_is_order : List Str := ["thing"]
theorem sc_is_order : FnScope N_is_order ["thing"] (defScope s_is_order) := ⟨rfl, rfl, rfl, by decide +kernel, rfl, by decide +kernel, by decide +kernel⟩
theorem pb_is_order : PosB "is_order" s_is_order ["thing"] := fun _ _ _ _ _ _ us hl => match us, hl with | [_], _ => rfl
abbrev N_first_no_plan : List Str := ["thing", "names", "index", "order", "name", "times"]
theorem sc_first_no_plan : FnScope N_first_no_plan ["thing"] (defScope s_first_no_plan) := ⟨rfl, rfl, rfl, by decide +kernel, rfl, by decide +kernel, by decide +kernel⟩
theorem pb_first_no_plan : PosB "first_no_plan" s_first_no_plan ["thing"] := fun _ _ _ _ _ _ us hl => match us, hl with | [_], _ => rfl
abbrev N_is_plan : List Str := ["thing"]
theorem sc_is_plan : FnScope N_is_plan ["thing"] (defScope s_is_plan) := ⟨rfl, rfl, rfl, by decide +kernel, rfl, by decide +kernel, by decide +kernel⟩
theorem pb_is_plan : PosB "is_plan" s_is_plan ["thing"] := fun _ _ _ _ _ _ us hl => match us, hl with | [_], _ => rfl
abbrev N_check_plan : List Str := ["thing", "invalid"]
theorem sc_check_plan : FnScope N_check_plan ["thing"] (defScope s_check_plan) := ⟨rfl, rfl, rfl, by decide +kernel, rfl, by decide +kernel, by decide +kernel⟩
theorem pb_check_plan : PosB "check_plan" s_check_plan ["thing"] := fun _ _ _ _ _ _ us hl => match us, hl with | [_], _ => rfl
abbrev N_plan_arrivals : List Str := ["plan", "order", "run"]
theorem sc_plan_arrivals : FnScope N_plan_arrivals ["plan"] (defScope s_plan_arrivals) := ⟨rfl, rfl, rfl, by decide +kernel, rfl, by decide +kernel, by decide +kernel⟩
theorem pb_plan_arrivals : PosB "plan_arrivals" s_plan_arrivals ["plan"] := fun _ _ _ _ _ _ us hl => match us, hl with | [_], _ => rfl
abbrev N__law_cell : List Str := ["_law_script", "_law_k", "_law_state", "_law_cell_here"]
theorem sc__law_cell : FnScope N__law_cell ["_law_script", "_law_k"] (defScope s__law_cell) := ⟨rfl, rfl, rfl, by decide +kernel, rfl, by decide +kernel, by decide +kernel⟩
theorem pb__law_cell : PosB "_law_cell" s__law_cell ["_law_script", "_law_k"] := fun _ _ _ _ _ _ us hl => match us, hl with | [_, _], _ => rfl
abbrev N__law_pool : List Str := ["_law_cell_here", "_law_digits"]
theorem sc__law_pool : FnScope N__law_pool ["_law_cell_here"] (defScope s__law_pool) := ⟨rfl, rfl, rfl, by decide +kernel, rfl, by decide +kernel, by decide +kernel⟩
theorem pb__law_pool : PosB "_law_pool" s__law_pool ["_law_cell_here"] := fun _ _ _ _ _ _ us hl => match us, hl with | [_], _ => rfl
abbrev N__law_draw : List Str := ["_law_pool_here", "_law_many", "_law_state", "_law_digit"]
theorem sc__law_draw : FnScope N__law_draw ["_law_pool_here", "_law_many"] (defScope s__law_draw) := ⟨rfl, rfl, rfl, by decide +kernel, rfl, by decide +kernel, by decide +kernel⟩
theorem pb__law_draw : PosB "_law_draw" s__law_draw ["_law_pool_here", "_law_many"] := fun _ _ _ _ _ _ us hl => match us, hl with | [_, _], _ => rfl
abbrev N__law_words : List Str := ["_law_pool_here", "_law_many", "_law_letters", "_law_menu", "_law_way", "_law_begin", "_law_k", "_law_stem", "_law_at"]
theorem sc__law_words : FnScope N__law_words ["_law_pool_here", "_law_many"] (defScope s__law_words) := ⟨rfl, rfl, rfl, by decide +kernel, rfl, by decide +kernel, by decide +kernel⟩
theorem pb__law_words : PosB "_law_words" s__law_words ["_law_pool_here", "_law_many"] := fun _ _ _ _ _ _ us hl => match us, hl with | [_, _], _ => rfl
abbrev N__law_often : List Str := ["_law_pool_here", "_law_way"]
theorem sc__law_often : FnScope N__law_often ["_law_pool_here"] (defScope s__law_often) := ⟨rfl, rfl, rfl, by decide +kernel, rfl, by decide +kernel, by decide +kernel⟩
theorem pb__law_often : PosB "_law_often" s__law_often ["_law_pool_here"] := fun _ _ _ _ _ _ us hl => match us, hl with | [_], _ => rfl
abbrev N__law_path : List Str := ["_law_pool_here", "_law_words_here", "_law_many", "_law_most", "_law_found", "_law_turn", "_law_word"]
theorem sc__law_path : FnScope N__law_path ["_law_pool_here", "_law_words_here", "_law_many", "_law_most"] (defScope s__law_path) := ⟨rfl, rfl, rfl, by decide +kernel, rfl, by decide +kernel, by decide +kernel⟩
theorem pb__law_path : PosB "_law_path" s__law_path ["_law_pool_here", "_law_words_here", "_law_many", "_law_most"] := fun _ _ _ _ _ _ us hl => match us, hl with | [_, _, _, _], _ => rfl
abbrev N__law_flat : List Str := ["_law_held", "_law_word"]
theorem sc__law_flat : FnScope N__law_flat ["_law_held"] (defScope s__law_flat) := ⟨rfl, rfl, rfl, by decide +kernel, rfl, by decide +kernel, by decide +kernel⟩
theorem pb__law_flat : PosB "_law_flat" s__law_flat ["_law_held"] := fun _ _ _ _ _ _ us hl => match us, hl with | [_], _ => rfl
abbrev N__law_is_run : List Str := ["_law_held", "_law_letter"]
theorem sc__law_is_run : FnScope N__law_is_run ["_law_held"] (defScope s__law_is_run) := ⟨rfl, rfl, rfl, by decide +kernel, rfl, by decide +kernel, by decide +kernel⟩
theorem pb__law_is_run : PosB "_law_is_run" s__law_is_run ["_law_held"] := fun _ _ _ _ _ _ us hl => match us, hl with | [_], _ => rfl
abbrev N__law_is_path : List Str := ["_law_held", "_law_run"]
theorem sc__law_is_path : FnScope N__law_is_path ["_law_held"] (defScope s__law_is_path) := ⟨rfl, rfl, rfl, by decide +kernel, rfl, by decide +kernel, by decide +kernel⟩
theorem pb__law_is_path : PosB "_law_is_path" s__law_is_path ["_law_held"] := fun _ _ _ _ _ _ us hl => match us, hl with | [_], _ => rfl
abbrev N__law_is_scheme : List Str := ["_law_held", "_law_path_here", "_law_runs", "_law_run"]
theorem sc__law_is_scheme : FnScope N__law_is_scheme ["_law_held"] (defScope s__law_is_scheme) := ⟨rfl, rfl, rfl, by decide +kernel, rfl, by decide +kernel, by decide +kernel⟩
theorem pb__law_is_scheme : PosB "_law_is_scheme" s__law_is_scheme ["_law_held"] := fun _ _ _ _ _ _ us hl => match us, hl with | [_], _ => rfl
abbrev N__law_scheme : List Str := ["_law_pool_here", "_law_words_here", "_law_most_paths", "_law_most_runs", "_law_most", "_law_turn"]
theorem sc__law_scheme : FnScope N__law_scheme ["_law_pool_here", "_law_words_here", "_law_most_paths", "_law_most_runs", "_law_most"] (defScope s__law_scheme) := ⟨rfl, rfl, rfl, by decide +kernel, rfl, by decide +kernel, by decide +kernel⟩
theorem pb__law_scheme : PosB "_law_scheme" s__law_scheme ["_law_pool_here", "_law_words_here", "_law_most_paths", "_law_most_runs", "_law_most"] := fun _ _ _ _ _ _ us hl => match us, hl with | [_, _, _, _, _], _ => rfl
abbrev N__law_gathered : List Str := ["_law_runs", "_law_held", "_law_word", "_law_often_here"]
theorem sc__law_gathered : FnScope N__law_gathered ["_law_runs"] (defScope s__law_gathered) := ⟨rfl, rfl, rfl, by decide +kernel, rfl, by decide +kernel, by decide +kernel⟩
theorem pb__law_gathered : PosB "_law_gathered" s__law_gathered ["_law_runs"] := fun _ _ _ _ _ _ us hl => match us, hl with | [_], _ => rfl
abbrev N__law_all_runs : List Str := ["_law_scheme_here", "_law_runs", "_law_path_here"]
theorem sc__law_all_runs : FnScope N__law_all_runs ["_law_scheme_here"] (defScope s__law_all_runs) := ⟨rfl, rfl, rfl, by decide +kernel, rfl, by decide +kernel, by decide +kernel⟩
theorem pb__law_all_runs : PosB "_law_all_runs" s__law_all_runs ["_law_scheme_here"] := fun _ _ _ _ _ _ us hl => match us, hl with | [_], _ => rfl
abbrev N__law_bent : List Str := ["_law_pool_here", "_law_scheme_here", "_law_odd", "_law_at", "_law_ahead", "_law_behind", "_law_found"]
theorem sc__law_bent : FnScope N__law_bent ["_law_pool_here", "_law_scheme_here"] (defScope s__law_bent) := ⟨rfl, rfl, rfl, by decide +kernel, rfl, by decide +kernel, by decide +kernel⟩
theorem pb__law_bent : PosB "_law_bent" s__law_bent ["_law_pool_here", "_law_scheme_here"] := fun _ _ _ _ _ _ us hl => match us, hl with | [_, _], _ => rfl
abbrev N__law_one_right : List Str := ["_law_held", "_law_kept", "_law_expected", "_law_found"]
theorem sc__law_one_right : FnScope N__law_one_right ["_law_held"] (defScope s__law_one_right) := ⟨rfl, rfl, rfl, by decide +kernel, rfl, by decide +kernel, by decide +kernel⟩
theorem pb__law_one_right : PosB "_law_one_right" s__law_one_right ["_law_held"] := fun _ _ _ _ _ _ us hl => match us, hl with | [_], _ => rfl
abbrev N__law_large_right : List Str := ["_law_letters", "_law_some", "_law_x", "_law_held"]
theorem sc__law_large_right : FnScope N__law_large_right [] (defScope s__law_large_right) := ⟨rfl, rfl, rfl, by decide +kernel, rfl, by decide +kernel, by decide +kernel⟩
theorem pb__law_large_right : PosB "_law_large_right" s__law_large_right [] := fun _ _ _ _ _ _ us hl => match us, hl with | [], _ => rfl
abbrev N__law_right : List Str := ["_law_pool_here", "_law_words_here", "_law_scheme_here", "_law_held", "_law_turn"]
theorem sc__law_right : FnScope N__law_right ["_law_pool_here"] (defScope s__law_right) := ⟨rfl, rfl, rfl, by decide +kernel, rfl, by decide +kernel, by decide +kernel⟩
theorem pb__law_right : PosB "_law_right" s__law_right ["_law_pool_here"] := fun _ _ _ _ _ _ us hl => match us, hl with | [_], _ => rfl
abbrev N_law : List Str := ["_law_script", "_law_k"]
theorem sc_law : FnScope N_law ["_law_script"] (defScope s_law) := ⟨rfl, rfl, rfl, by decide +kernel, rfl, by decide +kernel, by decide +kernel⟩
theorem pb_law : PosB "law" s_law ["_law_script"] := fun _ _ _ _ _ _ us hl => match us, hl with | [_], _ => rfl
def gkb_is_plan_0_thing : {α : Type} → List α → List α → List α := fun us ws => match us, ws with | [], [w0] => [w0] | _, _ => []
theorem kb_is_plan_0_thing : KwB "is_plan" s_is_plan ["thing"] 0 ["thing"] gkb_is_plan_0_thing := fun _ _ _ _ _ _ us ws hl hk => match us, hl, ws, hk with | [], _, [_], _ => rfl
theorem kb_is_plan_0_thing_r : ∀ {vs zs : List V} {us ws : List Value}, Vals vs us → Vals zs ws → vs.length = 0 → zs.length = 1 → Vals (gkb_is_plan_0_thing vs zs) (gkb_is_plan_0_thing us ws)
  | [], [_], _, _, .nil, .cons q0 (.nil), _, _ => .cons q0 (.nil)
def gkb_plan_arrivals_0_plan : {α : Type} → List α → List α → List α := fun us ws => match us, ws with | [], [w0] => [w0] | _, _ => []
theorem kb_plan_arrivals_0_plan : KwB "plan_arrivals" s_plan_arrivals ["plan"] 0 ["plan"] gkb_plan_arrivals_0_plan := fun _ _ _ _ _ _ us ws hl hk => match us, hl, ws, hk with | [], _, [_], _ => rfl
theorem kb_plan_arrivals_0_plan_r : ∀ {vs zs : List V} {us ws : List Value}, Vals vs us → Vals zs ws → vs.length = 0 → zs.length = 1 → Vals (gkb_plan_arrivals_0_plan vs zs) (gkb_plan_arrivals_0_plan us ws)
  | [], [_], _, _, .nil, .cons q0 (.nil), _, _ => .cons q0 (.nil)
def sp_is_whole (K : PySem.W.Frag) : Sp := fun vs H Q _ => ∃ (v : V) (d : PyData), vs = [v] ∧ Dx K H v d ∧ Q (.bl (wholeD d)) H
def sp_is_from (K : PySem.W.Frag) : Sp := fun vs H Q _ => ∃ (v : V) (d : PyData) (j : Int), vs = [v, .int j] ∧ Dx K H v d ∧ Q (.bl (fromD d j)) H
def sp_is_name (K : PySem.W.Frag) : Sp := fun vs H Q _ => ∃ (v : V) (d : PyData), vs = [v] ∧ Dx K H v d ∧ szD d = true ∧ ∀ H', Same H H' → Q (.bl (nameD d)) H'
def sp_is_run (K : PySem.W.Frag) : Sp := fun vs H Q _ => ∃ (v : V) (d : PyData), vs = [v] ∧ Dx K H v d ∧ szD d = true ∧ ∀ H', Same H H' → Q (.bl (runD d)) H'
def sp_table_of (K : PySem.W.Frag) : Sp := fun vs H Q _ => ∃ (l : Addr) (xs : List V) (ps : Bag), vs = [.ref l] ∧ H l = some (.lst xs) ∧ DpAll K H xs (ps.map pairD) ∧ ps.length ≤ 100000 ∧ ∀ a H', H a = none → Same H H' → H' a = some (.dK (kvOf (tabOf ps))) → Q (.ref a) H'
def sp_counts_of_table (K : PySem.W.Frag) : Sp := fun vs H Q _ => ∃ (a : Addr) (t : Bag), vs = [.ref a] ∧ H a = some (.dK (kvOf t)) ∧ (t.map (·.1)).Nodup ∧ t.length < 64 ∧ ∀ v ps H', Same H H' → Dp K H' v (bagD ps) → IsCan (fun n => posI (getT t n)) ps → ps.length ≤ t.length → (∀ p ∈ ps, p.1 ∈ t.map (·.1)) → Q v H'
theorem run_inv2 {K : PySem.W.Frag} {H : Hp} {v : V} {d : PyData} (h : Dx K H v d) (r : runD d = true) : ∃ a x w, v = .ref a ∧ SqT K H a [.str x, w] ∧ nmD d = x := by
  unfold runD at r
  split at r
  · rename_i a b
    cases a with
    | str x =>
      obtain ⟨p, xs, rfl, hs, hx⟩ := dx_tup_inv h
      cases hx with
      | @cons v0 _ _ _ r0 hx =>
      cases hx with
      | @cons v1 _ _ _ r1 hx =>
      cases hx
      cases dx_str_inv r0
      exact ⟨p, x, v1, rfl, hs, rfl⟩
    | _ => cases r
  · cases r
theorem getD_of2 {ds : List PyData} {i : Nat} {d : PyData} (h : ds[i]? = some d) : ds.getD i .none = d := by simp [List.getD, h]
def sp_first_no_order (K : PySem.W.Frag) : Sp := fun vs H Q _ => ∃ (v : V) (ds : List PyData), vs = [v] ∧ Dx K H v (.tuple ds) ∧ szDs ds = true ∧ ∀ H', Same H H' → Q (optV (firstNo ds)) H'
def sp_is_order (K : PySem.W.Frag) : Sp := fun vs H Q _ => ∃ (v : V) (d : PyData), vs = [v] ∧ Dx K H v d ∧ szD d = true ∧ ∀ H', Same H H' → Q (.bl (orderD d)) H'
def sp_first_no_plan (K : PySem.W.Frag) : Sp := fun vs H Q _ => ∃ (v : V) (ds : List PyData), vs = [v] ∧ Dx K H v (.tuple ds) ∧ szDs ds = true ∧ ∀ H', Same H H' → Q (optV (firstPl ds)) H'
def sp_is_plan (K : PySem.W.Frag) : Sp := fun vs H Q _ => ∃ (v : V) (d : PyData), vs = [v] ∧ Dx K H v d ∧ szD d = true ∧ ∀ H', Same H H' → Q (.bl (planX d)) H'
def sp_check_plan (K : PySem.W.Frag) : Sp := fun vs H Q _ => ∃ (v : V) (ds : List PyData), vs = [v] ∧ Dx K H v (.tuple ds) ∧ szDs ds = true ∧ planX (.tuple ds) = true ∧ ∀ H', Same H H' → Q .non H'
def sp_plan_arrivals (K : PySem.W.Frag) : Sp := fun vs H Q _ => ∃ (v : V) (rss : List Bag), vs = [v] ∧ Dx K H v (.tuple (rss.map bagD)) ∧ szDs (rss.map bagD) = true ∧ planX (.tuple (rss.map bagD)) = true ∧ (∀ p ∈ rss.flatten, 1 ≤ p.2) ∧ (rss.map List.length).sum ≤ 10000 ∧ (tabOf rss.flatten).length < 60 ∧ ∀ v ps H', Same H H' → Dp K H' v (bagD ps) → IsCan (fun n => posI (getT (tabOf rss.flatten) n)) ps → ps.length ≤ (tabOf rss.flatten).length → (∀ p ∈ ps, p.1 ∈ keys (tabOf rss.flatten)) → Q v H'
def sp__law_cell (K : PySem.W.Frag) : Sp := fun vs H Q _ => ∃ (a : Addr) (ns : List Int) (j : Int), vs = [.ref a, .int j] ∧ SqL K H a (ns.map V.int) ∧ ns.length ≤ 100 ∧ 0 ≤ j ∧ j ≤ 1000 ∧ ∀ n H', Same H H' → Q (.int n) H'
def spc__law_pool (K : PySem.W.Frag) : Sp := spPoolC
def sp__law_pool (K : PySem.W.Frag) : Sp := spPool
theorem divp200 {i j : Int} (h0 : 0 < j) (h1 : j < 2 ^ 200) : CDivP i j := by
  refine ⟨h0, PyProof.noPylong_of_log2 ?_⟩
  exact Nat.lt_of_lt_of_le (PySem.Flt.log2_lt_of (by decide : 0 < 200) (by omega)) (by decide)
def spc__law_draw (K : PySem.W.Frag) : Sp := spDrawC
def sp__law_draw (K : PySem.W.Frag) : Sp := spDraw
def sp__law_words (K : PySem.W.Frag) : Sp := fun vs H Q _ => ∃ (p : Addr) (m : Int), vs = [.ref p, .int m] ∧ H p = some (poolO p) ∧ 0 ≤ m ∧ m ≤ 15 ∧ ∀ a ws H', H a = none → Same H H' → H' a = some (.lst (ws.map V.str)) → WordsOk ws m.toNat → Q (.ref a) H'
def sp__law_often (K : PySem.W.Frag) : Sp := fun vs H Q _ => ∃ (p : Addr), vs = [.ref p] ∧ H p = some (poolO p) ∧ ∀ (r : Int) H', 1 ≤ r → r ≤ 10 ^ 30 → Same H H' → Q (.int r) H'
def sp__law_path (K : PySem.W.Frag) : Sp := fun vs H Q _ => ∃ (p a : Addr) (ws : List Str) (n : Nat) (m : Int), vs = [.ref p, .ref a, .int (n : Nat), .int m] ∧ H p = some (poolO p) ∧ SqL K H a (ws.map V.str) ∧ 0 < ws.length ∧ ws.length ≤ 1000 ∧ n ≤ 1000 ∧ 0 ≤ m ∧ m ≤ 10 ^ 30 ∧ ∀ v ps H', Same H H' → Dp K H' v (bagD ps) → ps.length ≤ n → (∀ q ∈ ps, q.1 ∈ ws) → (∀ q ∈ ps, 1 ≤ q.2) → (∀ q ∈ ps, q.2 ≤ 10 ^ 30) → (0 < m → ∀ q ∈ ps, q.2 ≤ m) → Q v H'
def sp__law_flat (K : PySem.W.Frag) : Sp := fun vs H Q _ => ∃ (a : Addr) (t : Bag), vs = [.ref a] ∧ H a = some (.dK (kvOf t)) ∧ (t.map (·.1)).Nodup ∧ t.length < 64 ∧ (∀ n ∈ t.map (·.1), 0 < getT t n) ∧ ∀ v ps H', Same H H' → Dp K H' v (bagD ps) → IsCan (fun n => posI (getT t n)) ps → ps.length ≤ t.length → (∀ p ∈ ps, p.1 ∈ t.map (·.1)) → Q v H'
def sp__law_is_run (K : PySem.W.Frag) : Sp := fun vs H Q _ => ∃ (v : V) (d : PyData), vs = [v] ∧ Dx K H v d ∧ szD d = true ∧ ∀ H', Same H H' → Q (.bl (runD d)) H'
def sp__law_is_path (K : PySem.W.Frag) : Sp := fun vs H Q _ => ∃ (v : V) (d : PyData), vs = [v] ∧ Dx K H v d ∧ szD d = true ∧ (∀ ds, d = .tuple ds → ds.length ≤ 5000) ∧ ∀ H', Same H H' → Q (.bl (orderD d)) H'
def sp__law_is_scheme (K : PySem.W.Frag) : Sp := fun vs H Q _ => ∃ (v : V) (d : PyData), vs = [v] ∧ Dx K H v d ∧ OddP d ∧ ∀ H', Same H H' → Q (.bl (planX d)) H'
def sp__law_scheme (K : PySem.W.Frag) : Sp := fun vs H Q _ => ∃ (p a : Addr) (ws : List Str) (m n : Nat) (q : Int), vs = [.ref p, .ref a, .int (m : Nat), .int (n : Nat), .int q] ∧ H p = some (poolO p) ∧ SqL K H a (ws.map V.str) ∧ 0 < ws.length ∧ ws.length ≤ 12 ∧ (∀ w ∈ ws, isName w = true) ∧ m ≤ 100 ∧ n ≤ 100 ∧ 0 ≤ q ∧ q ≤ 10 ^ 30 ∧ ∀ v (rss : List Bag) H', Same H H' → Dp K H' v (.tuple (rss.map bagD)) → rss.length ≤ m → (∀ rs ∈ rss, OrdOk rs ∧ rs.length ≤ n ∧ (∀ x ∈ rs, x.1 ∈ ws) ∧ ∀ x ∈ rs, x.2 ≤ 10 ^ 30) → Q v H'
def sp__law_gathered (K : PySem.W.Frag) : Sp := fun vs H Q _ => ∃ (l : Addr) (xs : List V) (rs : Bag), vs = [.ref l] ∧ H l = some (.lst xs) ∧ DpAll K H xs (rs.map pairD) ∧ (∀ p ∈ rs, 1 ≤ p.2) ∧ rs.length ≤ 10000 ∧ (tabOf rs).length < 60 ∧ ∀ v ps H', Same H H' → Dp K H' v (bagD ps) → IsCan (fun n => posI (getT (tabOf rs) n)) ps → ps.length ≤ (tabOf rs).length → (∀ p ∈ ps, p.1 ∈ keys (tabOf rs)) → Q v H'
def sp__law_all_runs (K : PySem.W.Frag) : Sp := fun vs H Q _ => ∃ (v : V) (rss : List Bag), vs = [v] ∧ Dp K H v (.tuple (rss.map bagD)) ∧ (rss.map List.length).sum ≤ 10000 ∧ ∀ l xs H', Same H H' → H' l = some (.lst xs) → DpAll K H' xs (rss.flatten.map pairD) → Q (.ref l) H'
def podd1 : List PyData := [.none, .int 0, .bool true, .str "a", .list [], .dict [], .tuple [.str "a", .int 1], .tuple [.tuple [.str "a", .int 0]], .tuple [.tuple [.str "a", .bool true]], .tuple [.tuple []], .tuple []]
def podd2 : List PyData := [.tuple [.tuple [.str "", .int 1]], .tuple [.tuple [.str "A", .int 1]], .tuple [.tuple [.str "abcdefghi", .int 1]], .tuple [.tuple [.str "a", .int 1, .int 1]], .tuple [.list [.str "a", .int 1]], .list [.tuple [.str "a", .int 1]], .tuple [.tuple [.str "a", .str "1"]]]
def podd3 : List PyData := [.tuple [.tuple [.list [.str "a"], .int 1]], .tuple [.tuple [.dict [], .int 1]], .tuple [.tuple [.str "a", .list [.int 1]]], .tuple [.tuple [.str "a", .dict []]]]
theorem podds_ok : ∀ d ∈ (podd1 ++ podd2) ++ podd3, rowK d = true ∧ wholeK d = true ∧ (d.hasDict = false ∨ noL d = true) := fun d hd => by
  have h : ((podd1 ++ podd2) ++ podd3).all (fun d => rowK d && (wholeK d && (!d.hasDict || noL d))) = true := by decide +kernel
  have h := List.all_eq_true.mp h d hd
  rw [Bool.and_eq_true, Bool.and_eq_true, Bool.or_eq_true] at h
  exact ⟨h.1, h.2.1, h.2.2.imp (fun z => by simpa using z) id⟩
def sp__law_bent (K : PySem.W.Frag) : Sp := fun vs H Q _ => ∃ (p : Addr) (v : V) (rss : List Bag), vs = [.ref p, v] ∧ H p = some (poolO p) ∧ Dx K H v (.tuple (rss.map bagD)) ∧ rss.length ≤ 5 ∧ (∀ rs ∈ rss, rowK (bagD rs) = true ∧ (bagD rs).hasDict = false ∧ noL (bagD rs) = true) ∧ ∀ v d H', Same H H' → Dx K H' v d → OddP d → Q v H'
def sp__law_one_right (K : PySem.W.Frag) : Sp := fun vs H Q _ => ∃ (v : V) (d : PyData), vs = [v] ∧ Dx K H v d ∧ OddP d ∧ ∀ H', Same H H' → Q (.bl true) H'
def abcm : Str := "abcdefghijklm"
def bg1 : List PyData := [.tuple (List.replicate 400 [.tuple []]).flatten, .tuple (List.replicate 401 [.tuple []]).flatten, .tuple [.tuple (List.replicate 1000 [.tuple [.str "a", .int 1]]).flatten], .tuple [.tuple (List.replicate 1001 [.tuple [.str "a", .int 1]]).flatten], .tuple ((signs1 abcm).map fun x => .tuple [.tuple [.str x, .int 2]])]
def bg2 : List PyData := [.tuple ((signs1 (cutS abcm none (some 12))).map fun x => .tuple [.tuple [.str x, .int 2]]), .tuple (List.replicate 2 [.tuple ((signs1 (cutS abcm none (some 7))).map fun x => .tuple [.str x, .int 1])]).flatten]
def bg3 : List PyData := [.tuple [.tuple ((signs1 (cutS abcm none (some 12))).map fun x => .tuple [.str x, .int 1]), .tuple [.tuple [.str "a", .int (10 ^ (30 : Int).toNat)]]], .tuple [.tuple [.tuple [.str "abcdefgh", .int 1]]], .none, .str "", .int 0, .dict []]
theorem bgs_ok : ∀ d ∈ (bg1 ++ bg2) ++ bg3, OddP d := fun d hd => by
  have h1 : bg1.all wholeK = true := by decide +kernel
  have h2 : bg2.all wholeK = true := by decide +kernel
  have h3 : bg3.all wholeK = true := by decide +kernel
  rcases List.mem_append.mp hd with h | h
  · rcases List.mem_append.mp h with h | h
    · exact wholeK_odd (List.all_eq_true.mp h1 d h)
    · exact wholeK_odd (List.all_eq_true.mp h2 d h)
  · exact wholeK_odd (List.all_eq_true.mp h3 d h)
def sp__law_large_right (K : PySem.W.Frag) : Sp := fun vs H Q _ => vs = [] ∧ ∀ H', Same H H' → Q (.bl true) H'
def sp__law_right (K : PySem.W.Frag) : Sp := fun vs H Q _ => ∃ (p : Addr), vs = [.ref p] ∧ H p = some (poolO p) ∧ ∀ H', Same H H' → Q (.bl true) H'
def sp_law (K : PySem.W.Frag) : Sp := fun vs H Q _ => ∃ (a : Addr) (ns : List Int), vs = [.ref a] ∧ SqL K H a (ns.map V.int) ∧ ns.length ≤ 63 ∧ ∀ H', Q (.bl true) H'
theorem ok_is_whole {P : Program} {w : World} {K : PySem.W.Frag} {mg : Str → Option Value} {base : Heap} (fr : Fre mg) (D : Dfd K mg "is_whole" s_is_whole) : Has P w K mg base CX0 1 "is_whole" s_is_whole ["thing"] (sp_is_whole K) := by
  refine D.has sc_is_whole (fun vs H Q E h => ?_) (fun cdv A outer s H vs Q E hr hg h => ?_)
  · obtain ⟨v, d, rfl, _⟩ := h; rfl
  · obtain ⟨v, d, rfl, hd, k⟩ := h
    have nd := sc_is_whole.nd
    refine ⟨_, PSs.nox (pss_one (ps_ret (pe_and (pe_callB (k_isi K) rfl fr.isinstance_ (by decide +kernel) (pa_cons (pv 0) (pa_cons (pe_bltn (v := .ty "int") rfl fr.int_ boot_int rfl) pa_nil))) (pe_one (pe_not (pe_callB (k_isi K) rfl fr.isinstance_ (by decide +kernel) (pa_cons (pv 0) (pa_cons (pe_bltn (v := .ty "bool") rfl fr.bool_ boot_bool rfl) pa_nil)))))))), ?_⟩
    try dsimp only [cxOf]
    tm_at "wp"
    refine w_isiX hd (isi_int d) ?_
    cases d
    all_goals first
      | (refine w_bl (w_iteF ?_); tm_at "wp"; exact k)
      | (refine w_bl (w_iteT ?_); tm_at "wp"; refine w_isiX hd (isi_bool _) ?_; tm_at "wp"; exact k)
theorem ok_is_from {P : Program} {w : World} {K : PySem.W.Frag} {mg : Str → Option Value} {base : Heap} (fr : Fre mg) (D : Dfd K mg "is_from" s_is_from)
    (h_is_whole : Has P w K mg base CX0 1 "is_whole" s_is_whole ["thing"] (sp_is_whole K)) : Has P w K mg base CX0 2 "is_from" s_is_from ["thing", "least"] (sp_is_from K) := by
  refine D.has sc_is_from (fun vs H Q E h => ?_) (fun cdv A outer s H vs Q E hr hg h => ?_)
  · obtain ⟨v, d, j, rfl, _⟩ := h; rfl
  · obtain ⟨v, d, j, rfl, hd, k⟩ := h
    have nd := sc_is_from.nd
    refine ⟨_, PSs.nox (pss_one (ps_ret (pe_and (pe_fn h_is_whole pb_is_whole (hr.mono (by decide)) hg rfl pass0 (pa_cons (pv 0) pa_nil)) (pe_one (pe_cmpR op_ge (pv 0) (pv 1) (nomark _)))))), ?_⟩
    try dsimp only [cxOf]
    tm_at "wp"
    refine ⟨v, d, rfl, hd, ?_⟩
    cases d
    case int i =>
      cases dx_int_inv hd
      refine w_bl (w_iteT ?_)
      tm_at "wp"
      exact k
    all_goals (refine w_bl (w_iteF ?_); tm_at "wp"; exact k)
theorem ok_is_name {P : Program} {w : World} {K : PySem.W.Frag} {mg : Str → Option Value} {base : Heap} (fr : Fre mg) (c_LETTERS : ∃ t, mg "LETTERS" = some (.str "abcdefghijklmnopqrstuvwxyz" t)) (D : Dfd K mg "is_name" s_is_name) : Has P w K mg base CX0 1 "is_name" s_is_name ["thing"] (sp_is_name K) := by
  refine D.has sc_is_name (fun vs H Q E h => ?_) (fun cdv A outer s H vs Q E hr hg h => ?_)
  · obtain ⟨v, d, rfl, _⟩ := h; rfl
  · obtain ⟨v, d, rfl, hd, hz, k⟩ := h
    obtain ⟨_, g_LETTERS⟩ := c_LETTERS
    have nd := sc_is_name.nd
    refine ⟨_, PSs.nox (pss_one (ps_ret (pe_and (pe_callB (k_isi K) rfl fr.isinstance_ (by decide +kernel) (pa_cons (pv 0) (pa_cons (pe_bltn (v := .ty "str") rfl fr.str_ boot_str rfl) pa_nil))) (pe_and (pe_chain op_lt op_lt pe_int (pe_callB (k_len K) rfl fr.len_ (by decide +kernel) (pa_cons (pv 0) pa_nil)) pe_int) (pe_one (pe_callB (k_all K rfl) rfl fr.all_ (by decide +kernel) (pa_cons (pe_lc (own := [("letter", 1)]) (g := gName 1) (tt := tYes) rfl nd (pi_str (pv 0)) (blkOk_by (own := [("letter", 1)]) (N := N_is_name) (sc := defScope s_is_name) (by decide +kernel)) (fun _ _ _ _ _ => (pg_name (i := 1) nd rfl (Or.inl rfl))) (fun _ _ _ _ _ => pts_nil) (fun _ _ _ _ _ => (pe_cmpR o_inSign (pv 1) (pe_glob (v := .str "abcdefghijklmnopqrstuvwxyz") rfl g_LETTERS ⟨_, rfl⟩) rfl))) pa_nil))))))), ?_⟩
    try dsimp only [cxOf]
    tm_at "wp"
    refine w_isiX hd (isi_str d) ?_
    cases d
    case str x =>
      cases dx_str_inv hd
      have hx : x.length ≤ 100000 := by simpa [szD] using hz
      have kk : ∀ H' b, Same H H' → b = isName x → Q (.bl b) H' := fun H' b s e => by rw [e]; exact k H' s
      refine w_bl (w_iteT ?_)
      tm_at "wp"
      refine w_lenS (sz_le hx) ?_
      tm_at "wp"
      refine w_ited (fun h1 => ?_) (fun h1 => ?_)
      · tm_at "wp"
        refine w_iteb (fun h2 => ?_) (fun h2 => ?_)
        · tm_at "wp"
          intro D0 hD
          refine lc_map walk_str (n := x.cps.size) (by have : x.length = x.cps.size := rfl; omega) (fun i y => ∃ c, x.cps.toList[i]? = some c ∧ y = .bl (isLet c)) hD (fun _ _ => trivial) ?_ ?_ mono_gname
          · rintro i y H1 H2 hi s ⟨rfl, c, hc, rfl⟩ Qy hq
            refine w_gname ⟨rfl, ?_⟩
            tm_at "wp"
            refine hq _ _ (Same.refl _) ⟨c, by simpa using hc, ?_⟩
            show V.bl (decide (c ∈ letters.cps.toList)) = _
            rw [mem_letters]
          · intro acc H1 s _ hacc hl hf
            have e : acc = (x.cps.toList.map isLet).map V.bl := by
              rw [List.map_map]
              exact acc_map (by simpa using hl) hf
            rw [e] at hacc
            refine w_all (SqL.of hacc) ?_
            refine kk _ _ s ?_
            rw [all_map_id]
            unfold isName
            rw [decide_eq_true (show 0 < x.length by omega), decide_eq_true (show x.length < 9 by have := of_decide_eq_true h2; omega)]
            simp
        · refine kk _ _ (Same.refl _) ?_
          unfold isName
          rw [decide_eq_false (show ¬ x.length < 9 by have := of_decide_eq_false h2; omega)]
          simp
      · refine w_bl (w_iteF ?_)
        refine kk _ _ (Same.refl _) ?_
        unfold isName
        rw [decide_eq_false (show ¬ 0 < x.length by omega)]
        simp
    all_goals (refine w_bl (w_iteF ?_); tm_at "wp"; exact k _ (Same.refl _))
theorem ok_is_run {P : Program} {w : World} {K : PySem.W.Frag} {mg : Str → Option Value} {base : Heap} (fr : Fre mg) (D : Dfd K mg "is_run" s_is_run)
    (h_is_from : Has P w K mg base CX0 2 "is_from" s_is_from ["thing", "least"] (sp_is_from K))
    (h_is_name : Has P w K mg base CX0 1 "is_name" s_is_name ["thing"] (sp_is_name K)) : Has P w K mg base CX0 3 "is_run" s_is_run ["thing"] (sp_is_run K) := by
  refine D.has sc_is_run (fun vs H Q E h => ?_) (fun cdv A outer s H vs Q E hr hg h => ?_)
  · obtain ⟨v, d, rfl, _⟩ := h; rfl
  · obtain ⟨v, d, rfl, hd, hz, k⟩ := h
    have nd := sc_is_run.nd
    refine ⟨_, PSs.nox (pss_one (ps_ret (pe_and (pe_callB (k_isi K) rfl fr.isinstance_ (by decide +kernel) (pa_cons (pv 0) (pa_cons (pe_bltn (v := .ty "tuple") rfl fr.tuple_ boot_tuple rfl) pa_nil))) (pe_and (pe_cmpR op_eq (pe_callB (k_len K) rfl fr.len_ (by decide +kernel) (pa_cons (pv 0) pa_nil)) pe_int (nomark _)) (pe_and (pe_fn h_is_name pb_is_name (hr.mono (by decide)) hg rfl pass0 (pa_cons (pe_ix (k_ixT K) (pv 0) pe_int (fun _ _ => rfl)) pa_nil)) (pe_one (pe_fn h_is_from pb_is_from (hr.mono (by decide)) hg rfl pass0 (pa_cons (pe_ix (k_ixT K) (pv 0) pe_int (fun _ _ => rfl)) (pa_cons pe_int pa_nil))))))))), ?_⟩
    try dsimp only [cxOf]
    tm_at "wp"
    refine w_isiX hd (isi_tup d) ?_
    cases d
    case tuple ds =>
      obtain ⟨a, xs, rfl, hs, hx⟩ := dx_tup_inv hd
      have hl := dxs_len hx
      refine w_bl (w_iteT ?_)
      tm_at "wp"
      refine w_lenT hs ?_
      tm_at "wp"
      refine w_ited (fun h1 => ?_) (fun h1 => ?_)
      · obtain ⟨d0, d1, rfl⟩ : ∃ d0 d1, ds = [d0, d1] := by
          match ds, (by omega : ds.length = 2) with
          | [d0, d1], _ => exact ⟨d0, d1, rfl⟩
        cases hx with
        | @cons v0 _ _ _ r0 hx =>
        cases hx with
        | @cons v1 _ _ _ r1 hx =>
        cases hx
        have z0 : szD d0 = true := szDs_get (ds := [d0, d1]) (i := 0) (by simpa [szD] using hz) rfl
        tm_at "wp"
        refine w_ixT hs (v := v0) rfl ?_
        tm_at "wp"
        refine ⟨v0, d0, rfl, r0, z0, fun H1 s1 => ?_⟩
        refine w_bl (w_iteb (fun h3 => ?_) (fun h3 => ?_))
        · tm_at "wp"
          refine w_ixT (sqt_same s1 hs) (v := v1) rfl ?_
          tm_at "wp"
          refine ⟨v1, d1, 1, rfl, dx_same s1 r1, ?_⟩
          have e : runD (.tuple [d0, d1]) = fromD d1 1 := by show (nameD d0 && fromD d1 1) = _; rw [h3]; rfl
          rw [e] at k
          exact k _ s1
        · have e : runD (.tuple [d0, d1]) = false := by show (nameD d0 && fromD d1 1) = _; rw [h3]; rfl
          rw [e] at k
          exact k _ s1
      · have e : runD (.tuple ds) = false := by
          unfold runD
          split
          · exfalso; rename_i heq; injection heq with heq; subst heq; exact h1 (by rw [hl]; rfl)
          · rfl
        rw [e] at k
        tm_at "wp"
        exact k _ (Same.refl _)
    all_goals (refine w_bl (w_iteF ?_); tm_at "wp"; exact k _ (Same.refl _))
theorem ok_table_of {P : Program} {w : World} {K : PySem.W.Frag} {mg : Str → Option Value} {base : Heap} (fr : Fre mg) (D : Dfd K mg "table_of" s_table_of) : Has P w K mg base CX0 1 "table_of" s_table_of ["pairs"] (sp_table_of K) := by
  refine D.has sc_table_of (fun vs H Q E h => ?_) (fun cdv A outer s H vs Q E hr hg h => ?_)
  · obtain ⟨l, xs, ps, rfl, _⟩ := h; rfl
  · obtain ⟨l, xs, ps, rfl, hl, hx, hn, k⟩ := h
    have nd := sc_table_of.nd
    refine ⟨_, PSs.nox (pss_cons (ps_set (i := 1) nd rfl (Or.inl rfl) pe_dnewK)
      (pss_cons (ps_for PassesOwn.never rfl (k_iList K (pv 0)) (k_gtup K rfl (pgs_cons (pg_name (i := 2) nd rfl (Or.inl rfl)) (pgs_cons (pg_name (i := 3) nd rfl (Or.inl rfl)) pgs_nil)))
        (pss_one (ps_dput (hu_of hr) (pv 1) (pv 2) (pe_op op_add (pe_dget2 (hu_of hr) (pv 1) (pv 2) pe_int ⟨rfl, rfl, rfl, rfl⟩) (pv 3)) rfl)))
      (pss_one (ps_ret (pv 1))))), ?_⟩
    try dsimp only [cxOf]
    have hxl : xs.length = ps.length := by rw [dps_len hx, List.length_map]
    tm_at "wp"
    rename_i d hd0
    refine w_onL (SqL.of (hp_new hl hd0)) ?_
    refine for_go (walk_list (xs := xs)) (fun i σ H' => ∃ u w, σ = [some (.ref l), some (.ref d), u, w] ∧ Same H H' ∧ H' d = some (.dK (kvOf (tabOf (ps.take i))))) ⟨none, none, rfl, same_new hd0, upd_same⟩ (fun i σ H' _ ⟨_, _, _, s, _⟩ => SqL.of (s _ _ hl)) ?_ ?_
    · rintro i v σ H1 H2 hi ⟨u, w, rfl, s1, hd1⟩ ⟨rfl, hy⟩
      obtain ⟨p, b, e1, rfl, hb⟩ := bag_get hx hy
      have hlen : (tabOf (ps.take i)).length ≤ 100000 := by have := tabOf_len (ps.take i); rw [List.length_take] at this; omega
      refine w_gtup (sqt_same s1 hb) rfl ?_
      tm_at "wp"
      refine w_isD hd1 ?_
      tm_at "wp"
      refine w_dgetk hd1 ?_
      rw [kv_get]
      tm_at "wp"
      refine w_dputk hd1 (by rw [kv_len]; exact Nat.lt_of_le_of_lt hlen (by decide)) ?_
      tm_at "wp"
      refine ⟨_, _, rfl, same_mut s1 hd0, ?_⟩
      rw [kv_put, upd_same, take_succ_snoc e1, tabOf_snoc]
      rfl
    · rintro σ H1 ⟨u, w, rfl, s1, hd1⟩
      tm_at "wp"
      refine k d _ hd0 s1 ?_
      rw [hd1, List.take_of_length_le (by omega)]
theorem ok_counts_of_table {P : Program} {w : World} {K : PySem.W.Frag} {mg : Str → Option Value} {base : Heap} (fr : Fre mg) (D : Dfd K mg "counts_of_table" s_counts_of_table) : Has P w K mg base CX0 1 "counts_of_table" s_counts_of_table ["table"] (sp_counts_of_table K) := by
  refine D.has sc_counts_of_table (fun vs H Q E h => ?_) (fun cdv A outer s H vs Q E hr hg h => ?_)
  · obtain ⟨a, t, rfl, _⟩ := h; rfl
  · obtain ⟨a, t, rfl, ha, hn, hl, k⟩ := h
    have nd := sc_counts_of_table.nd
    refine ⟨_, PSs.nox (pss_one (ps_ret (pe_callTy (k_tuple K) rfl fr.tuple_ (by decide +kernel) (pa_cons (pe_lc (own := [("name", 1)]) (g := gName 1) rfl nd (k_iList K (pe_callB (c_sortedDk rfl) rfl fr.sorted_ (by decide +kernel) (pa_cons (pv 0) pa_nil))) (blkOk_by (own := [("name", 1)]) (N := N_counts_of_table) (sc := defScope s_counts_of_table) (by decide +kernel)) (fun _ _ _ _ _ => (pg_name (i := 1) nd rfl (Or.inl rfl))) (fun _ _ _ _ _ => (pts_one (pt_cmpR op_gt (pe_dget (hu_of hr) (pv 0) (pv 1) (fun _ _ => rfl)) pe_int (nomark _)))) (fun _ _ _ _ _ => (pe_tup (pa_cons (pv 1) (pa_cons (pe_dget (hu_of hr) (pv 0) (pv 1) (fun _ _ => rfl)) pa_nil))))) pa_nil)))), ?_⟩
    try dsimp only [cxOf]
    tm_at "wp"
    refine w_sortedDk ha hl ?_
    intro ys q hperm hsorted hq
    have asc := sorted_asc hsorted (hperm.nodup_iff.mpr hn)
    have hlen : ys.length = t.length := by rw [hperm.length_eq, List.length_map]
    refine w_onL (SqL.of upd_same) ?_
    intro D0 hD
    refine lc_fmd K (walk_list (xs := ys.map V.str)) ys (fun y => if 0 < getT t y then some (pairD (y, getT t y)) else none) (by rw [List.length_map]) (by rw [List.length_map]; omega) (fun y d e => ?_) hD (fun _ s => s.seq (SqL.of upd_same)) ?_ ?_
    · by_cases z : 0 < getT t y
      · rw [if_pos z] at e; cases e; rfl
      · rw [if_neg z] at e; cases e
    · rintro i y n H1 H2 hi s ⟨rfl, hy⟩ Qy Qn hq1 hq2
      have ey : y = .str n := by rw [List.getElem?_map, hi] at hy; exact (Option.some.inj hy).symm
      subst ey
      have hin : n ∈ t.map (·.1) := hperm.mem_iff.mp (List.mem_of_getElem? hi)
      have ha1 : H2 a = some (.dK (kvOf t)) := s _ _ (hp_new ha hq)
      refine w_gname ⟨rfl, ?_⟩
      tm_at "wp"
      refine w_dgetc ha1 (kv_some hin) ?_
      tm_at "wp"
      refine w_ited (fun h => ?_) (fun h => ?_)
      · tm_at "wp"
        refine w_dgetc ha1 (kv_some hin) ?_
        tm_at "wp"
        rename_i T hT
        exact hq1 _ _ _ (same_new hT) (if_pos h) (pair_mk (SqT.of upd_same))
      · tm_at "wp"
        exact hq2 _ (Same.refl _) (if_neg h)
    · intro acc H1 s1 _ hacc hdp
      have e : (ys.filterMap fun y => if 0 < getT t y then some (pairD (y, getT t y)) else none) = (canF (getT t) ys).map pairD := by
        unfold canF
        rw [List.map_filterMap]
        congr 1
        funext y
        by_cases z : 0 < getT t y
        · rw [if_pos z, if_pos z]; rfl
        · rw [if_neg z, if_neg z]; rfl
      rw [e] at hdp
      tm_at "wp"
      refine w_tupL (SqL.of hacc) ?_
      intro T hT
      refine k (.ref T) _ _ (((same_new hq).trans s1).trans (same_new hT)) (.tup (SqT.of upd_same) (dps_same (same_new hT) hdp)) (canF_can hperm asc) (by have := canF_len (getT t) ys; omega) fun p hp => hperm.mem_iff.mp (canF_mem hp).1
theorem ok_first_no_order {P : Program} {w : World} {K : PySem.W.Frag} {mg : Str → Option Value} {base : Heap} (fr : Fre mg) (c_MAX_RUNS : ∃ t, mg "MAX_RUNS" = some (.int 1000 t)) (c_MAX_NAMES : ∃ t, mg "MAX_NAMES" = some (.int 12 t)) (D : Dfd K mg "first_no_order" s_first_no_order)
    (h_is_run : Has P w K mg base CX0 3 "is_run" s_is_run ["thing"] (sp_is_run K)) : Has P w K mg base CX0 4 "first_no_order" s_first_no_order ["thing"] (sp_first_no_order K) := by
  refine D.has sc_first_no_order (fun vs H Q E h => ?_) (fun cdv A outer s H vs Q E hr hg h => ?_)
  · obtain ⟨v, ds, rfl, _⟩ := h; rfl
  · obtain ⟨v, ds, rfl, hd, hz, k⟩ := h
    obtain ⟨_, g_MAX_RUNS⟩ := c_MAX_RUNS
    obtain ⟨_, g_MAX_NAMES⟩ := c_MAX_NAMES
    have nd := sc_first_no_order.nd
    refine ⟨_, PSs.nox (pss_cons (ps_set (i := 1) nd rfl (Or.inl rfl) pe_dnewK)
      (pss_cons (ps_for PassesOwn.never rfl (k_iEnumT K rfl fr.enumerate_ (pa_cons (pv 0) pa_nil)) (k_gtup K rfl (pgs_cons (pg_name (i := 2) nd rfl (Or.inl rfl)) (pgs_cons (pg_name (i := 3) nd rfl (Or.inl rfl)) pgs_nil)))
        (pss_cons (ps_if (PW.pt (pw_or (pt_cmpR op_ge (pv 2) (pe_glob (v := .int 1000) rfl g_MAX_RUNS ⟨_, rfl⟩) (nomark _)) (pw_or1 (pt_not (pt_val (pe_fn h_is_run pb_is_run (hr.mono (by decide)) hg rfl pass0 (pa_cons (pv 3) pa_nil))))))) (pss_one (ps_ret (pv 2))) pss_nil)
      (pss_cons (ps_dput (hu_of hr) (pv 1) (pe_ix (k_ixT K) (pv 3) pe_int (fun _ _ => rfl)) pe_bl rfl)
      (pss_one (ps_if (pt_cmpR op_gt (pe_callB c_lenD rfl fr.len_ (by decide +kernel) (pa_cons (pv 1) pa_nil)) (pe_glob (v := .int 12) rfl g_MAX_NAMES ⟨_, rfl⟩) (nomark _)) (pss_one (ps_ret (pv 2))) pss_nil)))))
      (pss_one (ps_ret pe_non)))), ?_⟩
    try dsimp only [cxOf]
    obtain ⟨a, xs, rfl, hs, hx⟩ := dx_tup_inv hd
    have hl := dxs_len hx
    tm_at "wp"
    rename_i n hn
    refine w_onE (sqt_same (same_new hn) hs) ?_
    refine for_go (walk_enumT (xs := xs)) (fun i σ H' => ∃ u w, σ = [some (.ref a), some (.ref n), u, w] ∧ Same H H' ∧ H' n = some (.dK (kvN (namesOf ((ds.take i).map nmD)))) ∧ ∀ j, j < i → noOrdAt ds j = false) ⟨none, none, rfl, same_new hn, upd_same, fun j h => by omega⟩ (fun i σ H' _ ⟨_, _, _, s, _⟩ => sqt_same s hs) ?_ ?_
    · rintro i v σ H1 H2 hi ⟨u, w, rfl, s1, hn1, hp⟩ ⟨T, y, x, rfl, hT, rfl, ey, ex⟩
      cases (Option.some.inj ey)
      obtain ⟨d, e1, e2⟩ := dxs_get hx ex
      have hgd := getD_of2 e1
      have s2 : Same H (upd H1 T (.tup [.int (i : Nat), x])) := same_step s1 hT
      have hn2 : (upd H1 T (.tup [.int (i : Nat), x])) n = some (.dK (kvN (namesOf ((ds.take i).map nmD)))) := hp_new hn1 hT
      refine w_gtup (SqT.of upd_same) rfl ?_
      tm_at "wp"
      have ret : noOrdAt ds i = true → ∀ H', Same H H' → Q (.int (i : Nat)) H' := fun hb H' s' => by
        have e := firstNo_some (by omega) hb hp
        rw [e] at k
        exact k H' s'
      refine w_ited (fun h1 => ?_) (fun h1 => ?_)
      · tm_at "wp"
        refine ret ?_ _ s2
        unfold noOrdAt
        rw [decide_eq_true (show 1000 ≤ i by omega)]; rfl
      · tm_at "wp"
        refine ⟨x, d, rfl, dx_same s2 e2, szDs_get hz e1, fun H3 s3 => ?_⟩
        have s4 := s2.trans s3
        have hn3 := s3 _ _ hn2
        refine w_bl ?_
        refine w_itenb (fun h2 => ?_) (fun h2 => ?_)
        · tm_at "wp"
          refine ret ?_ _ s4
          unfold noOrdAt
          rw [hgd, h2]; simp
        · tm_at "wp"
          obtain ⟨b, nx, wx, rfl, hb, en⟩ := run_inv2 e2 h2
          refine w_ixT (sqt_same s4 hb) (v := .str nx) rfl ?_
          have hlen : (namesOf ((ds.take i).map nmD)).length ≤ i := by
            have := namesOf_len ((ds.take i).map nmD)
            rw [List.length_map, List.length_take] at this
            omega
          refine w_dputk hn3 (by unfold kvN; rw [List.length_map]; exact sz_lt (by omega)) ?_
          rw [kvN_put]
          have et : addN (namesOf ((ds.take i).map nmD)) nx = namesOf ((ds.take (i + 1)).map nmD) := by
            rw [take_succ_snoc e1, List.map_append, ← en]
            exact (namesOf_snoc _ _).symm
          rw [et]
          tm_at "wp"
          refine w_lenD upd_same ?_
          tm_at "wp"
          have s5 : Same H (upd H3 n (.dK (kvN (namesOf ((ds.take (i + 1)).map nmD))))) := same_mut s4 hn
          have elen : (kvN (namesOf ((ds.take (i + 1)).map nmD))).length = (namesOf ((ds.take (i + 1)).map nmD)).length := by unfold kvN; rw [List.length_map]
          refine w_ited (fun h3 => ?_) (fun h3 => ?_)
          · tm_at "wp"
            refine ret ?_ _ s5
            unfold noOrdAt
            rw [hgd, h2, decide_eq_true (show 12 < (namesOf ((ds.take (i + 1)).map nmD)).length by omega)]; simp
          · tm_at "wp"
            refine ⟨_, _, rfl, s5, upd_same, fun j hj => ?_⟩
            by_cases e : j = i
            · subst e
              unfold noOrdAt
              rw [hgd, h2, decide_eq_false (show ¬ 1000 ≤ j by omega), decide_eq_false (show ¬ 12 < (namesOf ((ds.take (j + 1)).map nmD)).length by omega)]; rfl
            · exact hp j (by omega)
    · rintro σ H1 ⟨u, w, rfl, s1, hn1, hp⟩
      tm_at "wp"
      have e := firstNo_none (ds := ds) fun j hj => hp j (by omega)
      rw [e] at k
      exact k _ s1
theorem ok_is_order {P : Program} {w : World} {K : PySem.W.Frag} {mg : Str → Option Value} {base : Heap} (fr : Fre mg) (D : Dfd K mg "is_order" s_is_order)
    (h_first_no_order : Has P w K mg base CX0 4 "first_no_order" s_first_no_order ["thing"] (sp_first_no_order K)) : Has P w K mg base CX0 5 "is_order" s_is_order ["thing"] (sp_is_order K) := by
  refine D.has sc_is_order (fun vs H Q E h => ?_) (fun cdv A outer s H vs Q E hr hg h => ?_)
  · obtain ⟨v, d, rfl, _⟩ := h; rfl
  · obtain ⟨v, d, rfl, hd, hz, k⟩ := h
    have nd := sc_is_order.nd
    refine ⟨_, PSs.nox (pss_one (ps_ret (pe_and (pe_callB (k_isi K) rfl fr.isinstance_ (by decide +kernel) (pa_cons (pv 0) (pa_cons (pe_bltn (v := .ty "tuple") rfl fr.tuple_ boot_tuple rfl) pa_nil))) (pe_one (pe_cmpR o_isN (pe_fn h_first_no_order pb_first_no_order (hr.mono (by decide)) hg rfl pass0 (pa_cons (pv 0) pa_nil)) pe_non (nomark _)))))), ?_⟩
    try dsimp only [cxOf]
    tm_at "wp"
    refine w_isiX hd (isi_tup d) ?_
    cases d
    case tuple ds =>
      refine w_bl (w_iteT ?_)
      tm_at "wp"
      refine ⟨v, ds, rfl, hd, by simpa [szD] using hz, fun H1 s1 => ?_⟩
      cases e : firstNo ds with
      | none =>
        refine w_isNN ?_
        have q : Q (.bl (firstNo ds).isNone) H1 := k _ s1
        rw [e] at q
        exact q
      | some i =>
        refine w_isNI ?_
        have q : Q (.bl (firstNo ds).isNone) H1 := k _ s1
        rw [e] at q
        exact q
    all_goals (refine w_bl (w_iteF ?_); tm_at "wp"; exact k _ (Same.refl _))
theorem ok_first_no_plan {P : Program} {w : World} {K : PySem.W.Frag} {mg : Str → Option Value} {base : Heap} (fr : Fre mg) (c_MAX_ORDERS : ∃ t, mg "MAX_ORDERS" = some (.int 400 t)) (c_MAX_NAMES : ∃ t, mg "MAX_NAMES" = some (.int 12 t)) (D : Dfd K mg "first_no_plan" s_first_no_plan)
    (h_is_order : Has P w K mg base CX0 5 "is_order" s_is_order ["thing"] (sp_is_order K)) : Has P w K mg base CX0 6 "first_no_plan" s_first_no_plan ["thing"] (sp_first_no_plan K) := by
  refine D.has sc_first_no_plan (fun vs H Q E h => ?_) (fun cdv A outer s H vs Q E hr hg h => ?_)
  · obtain ⟨v, ds, rfl, _⟩ := h; rfl
  · obtain ⟨v, ds, rfl, hd, hz, k⟩ := h
    obtain ⟨_, g_MAX_ORDERS⟩ := c_MAX_ORDERS
    obtain ⟨_, g_MAX_NAMES⟩ := c_MAX_NAMES
    have nd := sc_first_no_plan.nd
    refine ⟨_, PSs.nox (pss_cons (ps_set (i := 1) nd rfl (Or.inl rfl) pe_dnewK)
      (pss_cons (ps_for PassesOwn.never rfl (k_iEnumT K rfl fr.enumerate_ (pa_cons (pv 0) pa_nil)) (k_gtup K rfl (pgs_cons (pg_name (i := 2) nd rfl (Or.inl rfl)) (pgs_cons (pg_name (i := 3) nd rfl (Or.inl rfl)) pgs_nil)))
        (pss_cons (ps_if (PW.pt (pw_or (pt_cmpR op_ge (pv 2) (pe_glob (v := .int 400) rfl g_MAX_ORDERS ⟨_, rfl⟩) (nomark _)) (pw_or1 (pt_not (pt_val (pe_fn h_is_order pb_is_order (hr.mono (by decide)) hg rfl pass0 (pa_cons (pv 3) pa_nil))))))) (pss_one (ps_ret (pv 2))) pss_nil)
      (pss_cons (ps_for PassesOwn.never rfl (k_iTup K (pv 3)) (k_gtup K rfl (pgs_cons (pg_name (i := 4) nd rfl (Or.inl rfl)) (pgs_cons (pg_name (i := 5) nd rfl (Or.inl rfl)) pgs_nil)))
        (pss_one (ps_dput (hu_of hr) (pv 1) (pv 4) pe_bl rfl)))
      (pss_one (ps_if (pt_cmpR op_gt (pe_callB c_lenD rfl fr.len_ (by decide +kernel) (pa_cons (pv 1) pa_nil)) (pe_glob (v := .int 12) rfl g_MAX_NAMES ⟨_, rfl⟩) (nomark _)) (pss_one (ps_ret (pv 2))) pss_nil)))))
      (pss_one (ps_ret pe_non)))), ?_⟩
    try dsimp only [cxOf]
    have est : ∀ a0 : V, L2.start N_first_no_plan [a0] = [some a0, none, none, none, none, none] := fun _ => rfl
    simp only [est]
    clear est
    obtain ⟨a, xs, rfl, hs, hx⟩ := dx_tup_inv hd
    have hxl := dxs_len hx
    tm_at "vp"
    rename_i n hn0
    refine w_onE (sqt_same (same_new hn0) hs) ?_
    refine for_go (walk_enumT (xs := xs)) (fun i σ H' => ∃ u2 u3 u4 u5, σ = [some (.ref a), some (.ref n), u2, u3, u4, u5] ∧ Same H H' ∧ H' n = some (.dK (kvN (namesOf ((ds.take i).flatMap ordNm)))) ∧ ∀ j, j < i → noPlAt ds j = false) ⟨_, _, _, _, rfl, same_new hn0, upd_same, fun j h => by omega⟩ (fun i σ H' _ ⟨_, _, _, _, _, s, _⟩ => sqt_same s hs) ?_ ?_
    · rintro i v σ H1 H2 hi ⟨u2, u3, u4, u5, rfl, s1, hn1, hp⟩ ⟨T, y, x, rfl, hT, rfl, ey, ex⟩
      cases (Option.some.inj ey)
      obtain ⟨d, e1, e2⟩ := dxs_get hx ex
      have hgd : ds.getD i .none = d := by simp [List.getD, e1]
      have hm12 : (namesOf ((ds.take i).flatMap ordNm)).length ≤ 12 := by
        cases i with
        | zero => simp [namesOf]
        | succ m =>
          have h := hp m (by omega)
          unfold noPlAt at h
          rw [Bool.or_eq_false_iff, Bool.or_eq_false_iff] at h
          have := of_decide_eq_false h.2.2
          omega
      have s2 : Same H (upd H1 T (.tup [.int (i : Nat), x])) := same_step s1 hT
      have hn2 : (upd H1 T (.tup [.int (i : Nat), x])) n = some (.dK (kvN (namesOf ((ds.take i).flatMap ordNm)))) := hp_new hn1 hT
      refine w_gtup (SqT.of upd_same) rfl ?_
      generalize upd H1 T (.tup [.int (i : Nat), x]) = H3 at s2 hn2
      clear s1 hn1 hT
      tm_at "vp"
      have ret : noPlAt ds i = true → ∀ H', Same H H' → Q (.int (i : Nat)) H' := fun hb H' s' => by
        have e := firstPl_some (by omega) hb hp
        rw [e] at k
        exact k H' s'
      refine w_ited (fun h1 => ?_) (fun h1 => ?_)
      · tm_at "vp"
        refine ret ?_ _ s2
        unfold noPlAt
        rw [decide_eq_true (show 400 ≤ i by omega)]; rfl
      tm_at "vp"
      refine ⟨x, d, rfl, dx_same s2 e2, szDs_get hz e1, fun H4 s4 => ?_⟩
      have s04 := s2.trans s4
      have hn4 := s4 _ _ hn2
      refine w_bl ?_
      refine w_itenb (fun h2 => ?_) (fun h2 => ?_)
      · tm_at "vp"
        refine ret ?_ _ s04
        unfold noPlAt
        rw [hgd, h2]; simp
      tm_at "vp"
      obtain ⟨o, rfl, hoo⟩ := ord_inv h2
      obtain ⟨ob, xo, rfl, hos, hox, hol⟩ := bag_inv (dx_bag (dx_same s04 e2))
      have ho1000 := hoo.len
      refine w_onT hos ?_
      refine for_go (walk_tup (xs := xo)) (fun j σ H' => ∃ u4 u5, σ = [some (.ref a), some (.ref n), some (.int (i : Nat)), some (.ref ob), u4, u5] ∧ Same H H' ∧ SqT K H' ob xo ∧ DpAll K H' xo (o.map pairD) ∧ H' n = some (.dK (kvN (namesOf ((ds.take i).flatMap ordNm ++ (o.take j).map (·.1)))))) ⟨_, _, rfl, s04, hos, hox, by simpa using hn4⟩ (fun j σ H' _ ⟨_, _, _, s, h, _⟩ => h) ?_ ?_
      · rintro j y σ H5 H6 hj ⟨u4, u5, rfl, s5, hos5, hox5, hn5⟩ ⟨rfl, hy⟩
        obtain ⟨q, b, e2, rfl, hqb⟩ := bag_get hox5 hy
        have hfew := names_app ((ds.take i).flatMap ordNm) ((o.take j).map (·.1))
        have htl : ((o.take j).map (·.1)).length ≤ 1000 := by rw [List.length_map, List.length_take]; omega
        refine w_gtup hqb rfl ?_
        tm_at "vp"
        refine w_dputk hn5 (by unfold kvN; rw [List.length_map]; exact sz_lt (by omega)) ?_
        rw [kvN_put, ← namesOf_snoc, List.append_assoc]
        tm_at "vp"
        have st : SameT H6 (upd H6 n (.dK (kvN (namesOf ((ds.take i).flatMap ordNm ++ ((o.take j).map (·.1) ++ [q.1])))))) := SameT.dct hn5
        refine ⟨_, _, rfl, same_mut s5 hn0, st.sqt hos5, dps_flat st hox5 (flat_prs _), ?_⟩
        rw [upd_same, take_succ_snoc e2, List.map_append]; rfl
      rintro σ H5 ⟨u4, u5, rfl, s5, hos5, hox5, hn5⟩
      rw [show o.take xo.length = o from List.take_of_length_le (by omega)] at hn5
      have e3 : (ds.take (i + 1)).flatMap ordNm = (ds.take i).flatMap ordNm ++ o.map (·.1) := by rw [take_succ_snoc e1, List.flatMap_append]; simp [ordNm_bag]
      rw [← e3] at hn5
      tm_at "vp"
      refine w_lenD hn5 ?_
      tm_at "vp"
      have elen : (kvN (namesOf ((ds.take (i + 1)).flatMap ordNm))).length = (namesOf ((ds.take (i + 1)).flatMap ordNm)).length := by unfold kvN; rw [List.length_map]
      refine w_ited (fun h3 => ?_) (fun h3 => ?_)
      · tm_at "vp"
        refine ret ?_ _ s5
        unfold noPlAt
        rw [hgd, h2, decide_eq_true (show 12 < (namesOf ((ds.take (i + 1)).flatMap ordNm)).length by omega)]; simp
      tm_at "vp"
      refine ⟨_, _, _, _, rfl, s5, hn5, fun j hj => ?_⟩
      by_cases e : j = i
      · subst e
        unfold noPlAt
        rw [hgd, h2, decide_eq_false (show ¬ 400 ≤ j by omega), decide_eq_false (show ¬ 12 < (namesOf ((ds.take (j + 1)).flatMap ordNm)).length by omega)]; rfl
      · exact hp j (by omega)
    rintro σ H1 ⟨u2, u3, u4, u5, rfl, s1, hn1, hp⟩
    tm_at "vp"
    have e := firstPl_none (ds := ds) fun j hj => hp j (by omega)
    rw [e] at k
    exact k _ s1
theorem ok_is_plan {P : Program} {w : World} {K : PySem.W.Frag} {mg : Str → Option Value} {base : Heap} (fr : Fre mg) (D : Dfd K mg "is_plan" s_is_plan)
    (h_first_no_plan : Has P w K mg base CX0 6 "first_no_plan" s_first_no_plan ["thing"] (sp_first_no_plan K)) : Has P w K mg base CX0 7 "is_plan" s_is_plan ["thing"] (sp_is_plan K) := by
  refine D.has sc_is_plan (fun vs H Q E h => ?_) (fun cdv A outer s H vs Q E hr hg h => ?_)
  · obtain ⟨v, d, rfl, _⟩ := h; rfl
  · obtain ⟨v, d, rfl, hd, hz, k⟩ := h
    have nd := sc_is_plan.nd
    refine ⟨_, PSs.nox (pss_one (ps_ret (pe_and (pe_callB (k_isi K) rfl fr.isinstance_ (by decide +kernel) (pa_cons (pv 0) (pa_cons (pe_bltn (v := .ty "tuple") rfl fr.tuple_ boot_tuple rfl) pa_nil))) (pe_one (pe_cmpR o_isN (pe_fn h_first_no_plan pb_first_no_plan (hr.mono (by decide)) hg rfl pass0 (pa_cons (pv 0) pa_nil)) pe_non (nomark _)))))), ?_⟩
    try dsimp only [cxOf]
    tm_at "wp"
    refine w_isiX hd (isi_tup d) ?_
    cases d
    case tuple ds =>
      refine w_bl (w_iteT ?_)
      tm_at "wp"
      refine ⟨v, ds, rfl, hd, by simpa [szD] using hz, fun H1 s1 => ?_⟩
      cases e : firstPl ds with
      | none =>
        refine w_isNN ?_
        have q : Q (.bl (firstPl ds).isNone) H1 := k _ s1
        rw [e] at q
        exact q
      | some i =>
        refine w_isNI ?_
        have q : Q (.bl (firstPl ds).isNone) H1 := k _ s1
        rw [e] at q
        exact q
    all_goals (refine w_bl (w_iteF ?_); tm_at "wp"; exact k _ (Same.refl _))
theorem ok_check_plan {P : Program} {w : World} {K : PySem.W.Frag} {mg : Str → Option Value} {base : Heap} (fr : Fre mg) (D : Dfd K mg "check_plan" s_check_plan)
    (h_first_no_plan : Has P w K mg base CX0 6 "first_no_plan" s_first_no_plan ["thing"] (sp_first_no_plan K)) : Has P w K mg base CX0 7 "check_plan" s_check_plan ["thing"] (sp_check_plan K) := by
  refine D.has sc_check_plan (fun vs H Q E h => ?_) (fun cdv A outer s H vs Q E hr hg h => ?_)
  · obtain ⟨v, ds, rfl, _⟩ := h; rfl
  · obtain ⟨v, ds, rfl, hd, hz, hp, k⟩ := h
    have nd := sc_check_plan.nd
    refine ⟨_, PSs.nox (pss_cons (ps_if (pt_not (pt_val (pe_callB (k_isi K) rfl fr.isinstance_ (by decide +kernel) (pa_cons (pv 0) (pa_cons (pe_bltn (v := .ty "tuple") rfl fr.tuple_ boot_tuple rfl) pa_nil))))) (pss_one ps_never) pss_nil)
      (pss_cons (ps_set (i := 1) nd rfl (Or.inl rfl) (pe_fn h_first_no_plan pb_first_no_plan (hr.mono (by decide)) hg rfl pass0 (pa_cons (pv 0) pa_nil)))
      (pss_one (ps_if (pt_cmpR o_notN (pv 1) pe_non (nomark _)) (pss_one ps_never) pss_nil)))), ?_⟩
    try dsimp only [cxOf]
    tm_at "wp"
    refine w_isiX hd (isi_tup _) ?_
    refine w_bl ?_
    refine w_nott ?_
    tm_at "wp"
    refine ⟨v, ds, rfl, hd, hz, fun H1 s1 => ?_⟩
    have e : firstPl ds = none := Option.isNone_iff_eq_none.mp hp
    rw [e]
    tm_at "wp"
    exact k _ s1
theorem ok_plan_arrivals {P : Program} {w : World} {K : PySem.W.Frag} {mg : Str → Option Value} {base : Heap} (fr : Fre mg) (D : Dfd K mg "plan_arrivals" s_plan_arrivals)
    (h_check_plan : Has P w K mg base CX0 7 "check_plan" s_check_plan ["thing"] (sp_check_plan K))
    (h_counts_of_table : Has P w K mg base CX0 1 "counts_of_table" s_counts_of_table ["table"] (sp_counts_of_table K))
    (h_table_of : Has P w K mg base CX0 1 "table_of" s_table_of ["pairs"] (sp_table_of K)) : Has P w K mg base CX0 8 "plan_arrivals" s_plan_arrivals ["plan"] (sp_plan_arrivals K) := by
  refine D.has sc_plan_arrivals (fun vs H Q E h => ?_) (fun cdv A outer s H vs Q E hr hg h => ?_)
  · obtain ⟨v, rss, rfl, _⟩ := h; rfl
  · obtain ⟨v, rss, rfl, hd, hz, hpl, h1, hl, hn2, k⟩ := h
    have nd := sc_plan_arrivals.nd
    refine ⟨_, PSs.nox (pss_cons (ps_expr (pe_fn h_check_plan pb_check_plan (hr.mono (by decide)) hg rfl pass0 (pa_cons (pv 0) pa_nil)))
      (pss_one (ps_ret (pe_fn h_counts_of_table pb_counts_of_table (hr.mono (by decide)) hg rfl pass0 (pa_cons (pe_fn h_table_of pb_table_of (hr.mono (by decide)) hg rfl pass0 (pa_cons (pe_lc2 (own := [("order", 1), ("run", 2)]) (vs1 := [2]) (g := gName 1) (g1 := gName 2) (tt := tYes) (tt1 := tYes) rfl nd (k_iTup K (pv 0)) (blkOk_by (own := [("order", 1), ("run", 2)]) (N := N_plan_arrivals) (sc := defScope s_plan_arrivals) (by decide +kernel)) (by decide) (fun _ _ _ _ _ => (pg_name (i := 1) nd rfl (Or.inl rfl))) (fun _ _ _ _ _ => pts_nil) (fun _ _ _ _ _ => (k_iTup K (pv 1))) (fun _ _ _ _ _ => (pg_name (i := 2) nd rfl (Or.inl rfl))) (fun _ _ _ _ _ => pts_nil) (fun _ _ _ _ _ => (pv 2))) pa_nil)) pa_nil))))), ?_⟩
    try dsimp only [cxOf]
    tm_at "wp"
    refine ⟨v, _, rfl, hd, hz, hpl, fun H1 s1 => ?_⟩
    obtain ⟨a, xs, rfl, hs, hx⟩ := dp_tup_inv (dp_same s1 (dx_bags hd))
    tm_at "wp"
    have hsum := hl
    have hfl := flat_len rss rss.length
    rw [List.take_of_length_le (Nat.le_refl _)] at hfl
    refine lc2_runs (by with_unfolding_all exact rfl) (fun _ => rfl) (fun _ => rfl) (fun _ _ => rfl) (fun _ _ => rfl) hs hx (by omega) fun D acc H2 s2 hD hacc => ?_
    tm_at "wp"
    refine ⟨D, acc, rss.flatten, rfl, hD, hacc, by omega, fun a H3 ha s3 hd3 => ?_⟩
    have ht := tab_ok h1
    tm_at "wp"
    refine ⟨a, _, rfl, hd3, ht.nd, by omega, fun v ps H4 s4 hv hcan hl2 hm => ?_⟩
    exact k v ps H4 (s1.trans (s2.trans (s3.trans s4))) hv hcan hl2 hm
theorem ok__law_cell {P : Program} {w : World} {K : PySem.W.Frag} {mg : Str → Option Value} {base : Heap} (fr : Fre mg) (D : Dfd K mg "_law_cell" s__law_cell) : Has P w K mg base CX0 1 "_law_cell" s__law_cell ["_law_script", "_law_k"] (sp__law_cell K) := by
  refine D.has sc__law_cell (fun vs H Q E h => ?_) (fun cdv A outer s H vs Q E hr hg h => ?_)
  · obtain ⟨a, ns, j, rfl, _⟩ := h; rfl
  · obtain ⟨a, ns, j, rfl, hs, hn, h0, h1, k⟩ := h
    have nd := sc__law_cell.nd
    refine ⟨_, PSs.nox (pss_cons (ps_if (pt_cmpR op_lt (pv 1) (pe_callB (k_len K) rfl fr.len_ (by decide +kernel) (pa_cons (pv 0) pa_nil)) (nomark _)) (pss_one (ps_ret (pe_ix (k_ixL K) (pv 0) (pv 1) (fun _ _ => rfl)))) pss_nil)
      (pss_cons (ps_set (i := 2) nd rfl (Or.inl rfl) (pe_op op_mod (pe_op op_mul pe_int (pe_op op_add (pe_op op_add (pe_op op_mul (pv 1) (pv 1)) (pe_op op_mul pe_int (pv 1))) pe_int)) pe_int))
      (pss_cons (ps_for PassesOwn.never rfl (k_iList K (pe_slice (k_slL K) (pv 0) po_none (po_some pe_int))) (pg_name (i := 3) nd rfl (Or.inl rfl))
        (pss_one (ps_set (i := 2) nd rfl (Or.inl rfl) (pe_op op_mod (pe_op op_add (pe_op op_mul (pv 2) pe_int) (pv 3)) pe_int))))
      (pss_one (ps_ret (pv 2)))))), ?_⟩
    try dsimp only [cxOf]
    tm_at "wp"
    refine w_lenL hs ?_
    tm_at "wp"
    refine w_ited (fun h2 => ?_) (fun h2 => ?_)
    · tm_at "wp"
      rw [List.length_map] at h2
      have h3 : j.toNat < ns.length := by omega
      refine w_ixL hs (v := .int ns[j.toNat]) ?_ ?_
      · exact at_of (j := j.toNat) (by omega) (by simp [h3])
      · exact k _ _ (Same.refl _)
    · tm_at "wp"
      refine w_slL hs ?_
      intro p hp
      refine w_onL (SqL.of upd_same) ?_
      have s0 : Same H (upd H p (.lst (cutV (ns.map V.int) none (some 3)))) := same_new hp
      refine for_go (walk_list (xs := cutV (ns.map V.int) none (some 3))) (fun i σ H' => ∃ z u, σ = [some (.ref a), some (.int j), some (.int z), u] ∧ 0 ≤ z ∧ z < 1000000007 ∧ H' = upd H p (.lst (cutV (ns.map V.int) none (some 3)))) ⟨_, none, rfl, Int.emod_nonneg _ (by decide), Int.emod_lt_of_pos _ (by decide), rfl⟩ (fun i σ H' _ ⟨_, _, _, _, _, e⟩ => by rw [e]; exact SqL.of upd_same) ?_ ?_
      · rintro i v σ H1 H2 hi ⟨z, u, rfl, z0, z1, rfl⟩ ⟨rfl, hy⟩
        obtain ⟨m, rfl⟩ : ∃ m, v = .int m := by
          have hm := List.mem_of_getElem? hy
          unfold cutV at hm
          have hm2 := List.mem_of_mem_drop (List.mem_of_mem_take hm)
          obtain ⟨m, _, e⟩ := List.mem_map.mp hm2
          exact ⟨m, e.symm⟩
        tm_at "wp"
        exact ⟨_, _, rfl, Int.emod_nonneg _ (by decide), Int.emod_lt_of_pos _ (by decide), rfl⟩
      · rintro σ H1 ⟨z, u, rfl, z0, z1, rfl⟩
        tm_at "wp"
        exact k _ _ s0
theorem okc__law_pool {P : Program} {w : World} {K : PySem.W.Frag} {mg : Str → Option Value} {base : Heap} (fr : Fre mg) (D : Dfd K mg "_law_pool" s__law_pool) : Has P w K mg base CX0 1 "_law_pool" s__law_pool ["_law_cell_here"] (spc__law_pool K) := by
  refine D.has sc__law_pool (fun vs H Q E h => ?_) (fun cdv A outer s H vs Q E hr hg h => ?_)
  · obtain ⟨n, rfl, _⟩ := h; rfl
  · obtain ⟨n, rfl, k⟩ := h
    have nd := sc__law_pool.nd
    refine ⟨_, PSs.nox (pss_cons (ps_set (i := 1) nd rfl (Or.inl rfl) pe_int)
      (pss_cons (ps_if (PW.pt (pw_or (pt_cmpR op_lt (pv 0) pe_int (nomark _)) (pw_or1 (pt_cmpR op_ge (pv 0) (pe_op op_pow pe_int pe_int) (nomark _))))) (pss_one (ps_set (i := 1) nd rfl (Or.inl rfl) (pe_callB c_abs rfl fr.abs_ (by decide +kernel) (pa_cons (pv 0) pa_nil)))) pss_nil)
      (pss_one (ps_ret (pe_lst (pa_cons (pe_op op_mod (pv 0) pe_int) (pa_cons (pv 1) (pa_cons pe_int pa_nil)))))))), ?_⟩
    try dsimp only [cxOf]
    have fin : ∀ (d : Int) (H' : Hp), 0 ≤ d → Same H H' → ∀ p, H' p = none → Q (.ref p) (upd H' p (.lst [.int (n % 1000000007), .int d, .int 0])) := fun d H' hd s p hp =>
      k p _ _ _ _ (s.free hp) (same_step s hp) upd_same ⟨Int.emod_nonneg _ (by decide), Int.emod_lt_of_pos _ (by decide), hd, Int.le_refl 0⟩
    tm_at "wp"
    refine w_ited (fun h1 => ?_) (fun h1 => ?_)
    · tm_at "wp"
      rename_i hp
      exact fin _ _ (by split <;> omega) (Same.refl _) _ hp
    · tm_at "wp"
      refine w_ited (fun h2 => ?_) (fun h2 => ?_)
      · tm_at "wp"
        rename_i hp
        exact fin _ _ (by split <;> omega) (Same.refl _) _ hp
      · tm_at "wp"
        rename_i hp
        exact fin _ _ (Int.le_refl 0) (Same.refl _) _ hp
theorem ok__law_pool {P : Program} {w : World} {K : PySem.W.Frag} {mg : Str → Option Value} {base : Heap} (fr : Fre mg) (D : Dfd K mg "_law_pool" s__law_pool) : Has P w K mg base CX0 1 "_law_pool" s__law_pool ["_law_cell_here"] (sp__law_pool K) := has_pool (okc__law_pool fr D) rfl
theorem okc__law_draw {P : Program} {w : World} {K : PySem.W.Frag} {mg : Str → Option Value} {base : Heap} (fr : Fre mg) (D : Dfd K mg "_law_draw" s__law_draw) : Has P w K mg base CX0 1 "_law_draw" s__law_draw ["_law_pool_here", "_law_many"] (spc__law_draw K) := by
  refine D.has sc__law_draw (fun vs H Q E h => ?_) (fun cdv A outer s H vs Q E hr hg h => ?_)
  · obtain ⟨p, s0, d0, c0, m, rfl, _⟩ := h; rfl
  · obtain ⟨p, s0, d0, c0, m, rfl, hp, hv, m0, m1, k⟩ := h
    have nd := sc__law_draw.nd
    refine ⟨_, PSs.nox (pss_cons (ps_asg (pe_op op_add (pe_ix (k_ixL K) (pv 0) pe_int (fun _ _ => rfl)) pe_int) (pg_sub (pv 0) pe_int set_list))
      (pss_cons (ps_set (i := 2) nd rfl (Or.inl rfl) (pe_ix (k_ixL K) (pv 0) pe_int (fun _ _ => rfl)))
      (pss_cons (ps_asg (pe_op op_mod (pe_callTy c_int1 rfl fr.int_ (by decide +kernel) (pa_cons (pe_op op_add (pe_op op_add (pe_op op_mul (pv 2) (pe_op op_add (pe_op op_mod (pe_callTy c_int1 rfl fr.int_ (by decide +kernel) (pa_cons (pv 2) pa_nil)) pe_int) pe_int)) (pe_op op_mul pe_int (pe_ix (k_ixL K) (pv 0) pe_int (fun _ _ => rfl)))) pe_int) pa_nil)) pe_int) (pg_sub (pv 0) pe_int set_list))
      (pss_cons (ps_if (pt_cmpR op_gt (pe_ix (k_ixL K) (pv 0) pe_int (fun _ _ => rfl)) pe_int (nomark _)) (pss_cons (ps_asg (pe_callB c_divmod rfl fr.divmod_ (by decide +kernel) (pa_cons (pe_ix (k_ixL K) (pv 0) pe_int (fun _ _ => rfl)) (pa_cons (pv 1) pa_nil))) (k_gtup K rfl (pgs_cons (pg_sub (pv 0) pe_int set_list) (pgs_cons (pg_name (i := 3) nd rfl (Or.inl rfl)) pgs_nil))))
      (pss_one (ps_ret (pv 3)))) pss_nil)
      (pss_one (ps_ret (pe_op op_mod (pe_op op_fdiv (pe_ix (k_ixL K) (pv 0) pe_int (fun _ _ => rfl)) pe_int) (pv 1)))))))), ?_⟩
    try dsimp only [cxOf]
    obtain ⟨v0, v1, v2, v3⟩ := hv
    tm_at "wp"
    refine w_ixL (SqL.of hp) (v := .int c0) rfl ?_
    tm_at "wp"
    refine w_setL hp (j := 2) rfl ?_
    tm_at "wp"
    refine w_ixL (SqL.of upd_same) (v := .int s0) rfl ?_
    tm_at "wp"
    refine w_ixL (SqL.of upd_same) (v := .int (c0 + 1)) rfl ?_
    tm_at "wp"
    refine w_setL upd_same (j := 0) rfl ?_
    tm_at "wp"
    generalize hs1 : (s0 * (s0 % 46007 + 20011) + 60013 * (c0 + 1) + 5) % 1000000007 = s1
    have b0 : 0 ≤ s1 := by rw [← hs1]; exact Int.emod_nonneg _ (by decide)
    have b1 : s1 < 1000000007 := by rw [← hs1]; exact Int.emod_lt_of_pos _ (by decide)
    rw [upd_upd]
    have sb : ∀ l : HO, SameB p H (upd H p l) := fun l => SameB.upd
    refine w_ixL (SqL.of upd_same) (v := .int d0) rfl ?_
    tm_at "wp"
    refine w_ited (fun h1 => ?_) (fun h1 => ?_)
    · tm_at "wp"
      refine w_ixL (SqL.of upd_same) (v := .int d0) rfl ?_
      tm_at "wp"
      refine w_divW (divp200 m0 m1) ?_
      intro q hq
      have npq : p ≠ q := ne_of_none (upd_same (H := H) (a := p)) hq
      refine w_gtup (SqT.of upd_same) rfl ?_
      tm_at "wp"
      refine w_setL ((upd_ne npq).trans upd_same) (j := 1) rfl ?_
      tm_at "wp"
      refine k _ s1 (d0 / m) (c0 + 1) _ (Int.emod_nonneg _ (by omega)) (Int.emod_lt_of_pos _ m0) (fun b o nb e => ?_) upd_same ⟨b0, b1, Int.ediv_nonneg v2 (by omega), by omega⟩
      rw [upd_ne nb]
      have e2 := sb (.lst [.int s1, .int d0, .int (c0 + 1)]) b o nb e
      exact hp_new e2 hq
    · tm_at "wp"
      refine w_ixL (SqL.of upd_same) (v := .int s1) rfl ?_
      tm_at "wp"
      refine k _ s1 d0 (c0 + 1) _ (Int.emod_nonneg _ (by omega)) (Int.emod_lt_of_pos _ m0) (sb _) upd_same ⟨b0, b1, v2, by omega⟩
theorem ok__law_draw {P : Program} {w : World} {K : PySem.W.Frag} {mg : Str → Option Value} {base : Heap} (fr : Fre mg) (D : Dfd K mg "_law_draw" s__law_draw) : Has P w K mg base CX0 1 "_law_draw" s__law_draw ["_law_pool_here", "_law_many"] (sp__law_draw K) := has_draw (okc__law_draw fr D) rfl
theorem ok__law_words {P : Program} {w : World} {K : PySem.W.Frag} {mg : Str → Option Value} {base : Heap} (fr : Fre mg) (D : Dfd K mg "_law_words" s__law_words)
    (h__law_draw : Has P w K mg base CX0 1 "_law_draw" s__law_draw ["_law_pool_here", "_law_many"] (sp__law_draw K)) : Has P w K mg base CX0 2 "_law_words" s__law_words ["_law_pool_here", "_law_many"] (sp__law_words K) := by
  refine D.has sc__law_words (fun vs H Q E h => ?_) (fun cdv A outer s H vs Q E hr hg h => ?_)
  · obtain ⟨p, m, rfl, _⟩ := h; rfl
  · obtain ⟨p, m, rfl, hp, m0, m1, k⟩ := h
    have nd := sc__law_words.nd
    refine ⟨_, PSs.nox (pss_cons (ps_set (i := 2) nd rfl (Or.inr rfl) pe_str)
      (pss_cons (ps_set (i := 3) nd rfl (Or.inr rfl) (pe_lst (pa_cons pe_str (pa_cons pe_str (pa_cons pe_str (pa_cons pe_str (pa_cons pe_str (pa_cons pe_str (pa_cons pe_str (pa_cons pe_str (pa_cons pe_str (pa_cons pe_str (pa_cons pe_str (pa_cons pe_str (pa_cons pe_str (pa_cons pe_str (pa_cons pe_str pa_nil)))))))))))))))))
      (pss_cons (ps_asg (pe_tup (pa_cons (pe_fn h__law_draw pb__law_draw (hr.mono (by decide)) hg rfl pass0 (pa_cons (pv 0) (pa_cons pe_int pa_nil))) (pa_cons (pe_fn h__law_draw pb__law_draw (hr.mono (by decide)) hg rfl pass0 (pa_cons (pv 0) (pa_cons pe_int pa_nil))) pa_nil))) (k_gtup K rfl (pgs_cons (pg_name (i := 4) nd rfl (Or.inl rfl)) (pgs_cons (pg_name (i := 5) nd rfl (Or.inr rfl)) pgs_nil))))
      (pss_cons (ps_if (pt_cmpR op_eq (pv 4) pe_int (nomark _)) (pss_one (ps_ret (pe_lc (own := [("_law_k", 6)]) (g := gName 6) (tt := tYes) rfl nd (pi_range1 rfl fr.range_ (pa_cons (pv 1) pa_nil)) (blkOk_by (own := [("_law_k", 6)]) (N := N__law_words) (sc := defScope s__law_words) (by decide +kernel)) (fun _ _ _ _ _ => (pg_name (i := 6) nd rfl (Or.inl rfl))) (fun _ _ _ _ _ => pts_nil) (fun _ _ _ _ _ => (pe_ix (k_ixL K) (pv 3) (pe_op op_mod (pe_op op_add (pv 5) (pe_op op_mul pe_int (pv 6))) pe_int) (fun _ _ => rfl)))))) pss_nil)
      (pss_cons (ps_if (pt_cmpR op_eq (pv 4) pe_int (nomark _)) (pss_one (ps_ret (pe_lc (own := [("_law_k", 6)]) (g := gName 6) (tt := tYes) rfl nd (pi_range1 rfl fr.range_ (pa_cons (pv 1) pa_nil)) (blkOk_by (own := [("_law_k", 6)]) (N := N__law_words) (sc := defScope s__law_words) (by decide +kernel)) (fun _ _ _ _ _ => (pg_name (i := 6) nd rfl (Or.inl rfl))) (fun _ _ _ _ _ => pts_nil) (fun _ _ _ _ _ => (pe_op o_mulS (pe_ix ix_str (pv 2) (pe_op op_mod (pe_op op_add (pv 5) (pe_op op_mul pe_int (pv 6))) pe_int) (fun _ _ => rfl)) (pe_op op_add pe_int (pe_op op_mod (pv 6) pe_int))))))) pss_nil)
      (pss_cons (ps_set (i := 7) nd rfl (Or.inr rfl) (k_join K pe_str (pe_lc (own := [("_law_k", 6)]) (g := gName 6) (tt := tYes) rfl nd (pi_range1 rfl fr.range_ (pa_cons (pe_fn h__law_draw pb__law_draw (hr.mono (by decide)) hg rfl pass0 (pa_cons (pv 0) (pa_cons pe_int pa_nil))) pa_nil)) (blkOk_by (own := [("_law_k", 6)]) (N := N__law_words) (sc := defScope s__law_words) (by decide +kernel)) (fun _ _ _ _ _ => (pg_name (i := 6) nd rfl (Or.inl rfl))) (fun _ _ _ _ _ => pts_nil) (fun _ _ _ _ _ => (pe_ix ix_str (pv 2) (pe_fn h__law_draw pb__law_draw (hr.mono (by decide)) hg rfl pass0 (pa_cons (pv 0) (pa_cons pe_int pa_nil))) (fun _ _ => rfl))))))
      (pss_cons (ps_set (i := 8) nd rfl (Or.inr rfl) (pe_fn h__law_draw pb__law_draw (hr.mono (by decide)) hg rfl pass0 (pa_cons (pv 0) (pa_cons (pe_op op_add (pe_callB (k_len K) rfl fr.len_ (by decide +kernel) (pa_cons (pv 7) pa_nil)) pe_int) pa_nil))))
      (pss_one (ps_ret (pe_lc (own := [("_law_k", 6)]) (g := gName 6) (tt := tYes) rfl nd (pi_range1 rfl fr.range_ (pa_cons (pv 1) pa_nil)) (blkOk_by (own := [("_law_k", 6)]) (N := N__law_words) (sc := defScope s__law_words) (by decide +kernel)) (fun _ _ _ _ _ => (pg_name (i := 6) nd rfl (Or.inl rfl))) (fun _ _ _ _ _ => pts_nil) (fun _ _ _ _ _ => (pe_op o_addS (pe_op o_addS (pe_slice sl_str (pv 7) po_none (po_some (pv 8))) (pe_ix ix_str (pv 2) (pe_op op_mod (pe_op op_add (pv 5) (pe_op op_mul pe_int (pv 6))) pe_int) (fun _ _ => rfl))) (pe_slice sl_str (pv 7) (po_some (pv 8)) po_none))))))))))))), ?_⟩
    try dsimp only [cxOf]
    have fin : ∀ (f : Nat → Str) (D0 : Addr) (acc : List V) (H1 H2 : Hp), Same H H1 → H1 D0 = none → Same H1 H2 → H2 D0 = some (.lst acc) → acc.length = m.toNat → (∀ (i : Nat) (y : V), acc[i]? = some y → y = .str (f i)) → (((List.range 15).map f).Nodup ∧ ∀ w ∈ (List.range 15).map f, isName w = true) → Q (.ref D0) H2 := by
      intro f D0 acc H1 H2 s1 h0 s2 ha hl hf hw
      refine k D0 ((List.range m.toNat).map f) H2 (s1.free h0) (s1.trans s2) ?_ (words_mk (by omega) hw)
      rw [ha]
      have e : acc = (List.range m.toNat).map fun i => V.str (f i) := acc_map (by simpa using hl) fun i y e => by
        obtain ⟨h3, _⟩ := List.getElem?_eq_some_iff.mp e
        exact ⟨i, List.getElem?_range (by omega), hf i y e⟩
      rw [e, List.map_map]; rfl
    tm_at "wp"
    rename_i ml hml
    refine ⟨p, 3, rfl, by tm_at "heap", by decide, by decide, fun way H1 w0 w1 s1 => ?_⟩
    tm_at "wp"
    refine ⟨p, 15, rfl, by tm_at "heap", by decide, by decide, fun b H2 b0 b1 s2 => ?_⟩
    have s02 : Same H H2 := ((same_new hml).trans s1).trans s2
    have hm2 : SqL K H2 ml (menuW.map V.str) := SqL.of (s2 _ _ (s1 _ _ upd_same))
    have hp2 : H2 p = some (poolO p) := s02 _ _ hp
    tm_at "wp"
    rename_i tp htp
    refine w_gtup (SqT.of upd_same) rfl ?_
    have s3 : Same H2 (upd H2 tp (.tup [.int way, .int b])) := same_new htp
    have s03 := s02.trans s3
    generalize hH3 : upd H2 tp (.tup [.int way, .int b]) = H3 at s3 s03
    have hm3 := s3.seq hm2
    have hp3 := s3 _ _ hp2
    tm_at "wp"
    refine w_ited (fun h1 => ?_) (fun h1 => ?_)
    · tm_at "wp"
      refine w_onR1 ⟨by omega, by omega⟩ ?_
      intro D0 hD
      refine lc_map walk_range (n := m.toNat) (by omega) (fun i y => y = .str (wordA b.toNat i)) hD (fun _ _ => trivial) ?_ ?_ mono_gname
      · rintro i y H4 H5 hi s4 ⟨rfl, rfl⟩ Qy hq
        refine w_gname ⟨rfl, ?_⟩
        tm_at "wp"
        refine w_ixL (s4.seq hm3) (v := .str (wordA b.toNat i)) ?_ (hq _ _ (Same.refl _) rfl)
        refine at_of (j := (b.toNat + 4 * i) % 15) (by omega) ?_
        have hlt : (b.toNat + 4 * i) % 15 < menuW.length := by show _ < 15; omega
        rw [List.getElem?_map, List.getElem?_eq_getElem hlt]
        simp [wordA, List.getD, List.getElem?_eq_getElem hlt]
      · intro acc H4 s4 h0 ha hl hf
        exact fin _ D0 acc H3 H4 s03 h0 s4 ha hl hf (wordA_all b.toNat (by omega))
    · tm_at "wp"
      refine w_ited (fun h2 => ?_) (fun h2 => ?_)
      · tm_at "wp"
        refine w_onR1 ⟨by omega, by omega⟩ ?_
        intro D0 hD
        refine lc_map walk_range (n := m.toNat) (by omega) (fun i y => y = .str (wordB b.toNat i)) hD (fun _ _ => trivial) ?_ ?_ mono_gname
        · rintro i y H4 H5 hi s4 ⟨rfl, rfl⟩ Qy hq
          refine w_gname ⟨rfl, ?_⟩
          tm_at "wp"
          refine w_ixS (z := letters) (by decide +kernel) (letters_at (Int.emod_nonneg _ (by decide)) (Int.emod_lt_of_pos _ (by decide))) ?_
          tm_at "wp"
          refine w_mulS (n := 1 + i % 8) (by omega) (by show 1 * _ ≤ _; omega) (by omega) (hq _ _ (Same.refl _) ?_)
          unfold wordB
          rw [show ((b + 7 * (0 + (i : Int))) % 26).toNat = (b.toNat + 7 * i) % 26 by omega]
        · intro acc H4 s4 h0 ha hl hf
          exact fin _ D0 acc H3 H4 s03 h0 s4 ha hl hf (wordB_all b.toNat (by omega))
      · tm_at "wp"
        refine ⟨p, 8, rfl, hp3, by decide, by decide, fun n8 H4 n0 n1 s4 => ?_⟩
        tm_at "wp"
        refine w_onR1 ⟨by omega, by omega⟩ ?_
        intro D0 hD
        have hp4 := s4 _ _ hp3
        refine lc_map walk_range (n := n8.toNat) (by omega) (fun i y => ∃ c, y = .str ⟨#[c]⟩ ∧ isLet c = true) hD (fun _ _ => trivial) ?_ ?_ mono_gname
        · rintro i y H5 H6 hi s5 ⟨rfl, rfl⟩ Qy hq
          refine w_gname ⟨rfl, ?_⟩
          tm_at "wp"
          refine ⟨p, 26, rfl, s5 _ _ hp4, by decide, by decide, fun c H6 c0 c1 s6 => ?_⟩
          tm_at "wp"
          refine w_ixS (z := letters) (by decide +kernel) (letters_at c0 c1) (hq _ _ s6 ⟨_, rfl, ?_⟩)
          unfold isLet
          rw [decide_eq_true (by omega), decide_eq_true (by omega)]; rfl
        · intro acc H5 s5 h0 ha hl hf
          obtain ⟨ys, ey, hy⟩ : ∃ ys : List Str, acc = ys.map V.str ∧ ∀ y ∈ ys, ∃ c, y = ⟨#[c]⟩ ∧ isLet c = true := by
            refine ⟨acc.map fun v => match v with | .str y => y | _ => Str.empty, ?_, fun y hy => ?_⟩
            · rw [List.map_map]
              refine (List.map_id acc).symm.trans (List.map_congr_left fun v hv => ?_)
              obtain ⟨i, hi, e⟩ := List.mem_iff_getElem.mp hv
              obtain ⟨c, e2, _⟩ := hf i v (by rw [List.getElem?_eq_getElem hi, e])
              subst e2; rfl
            · obtain ⟨v, hv, e⟩ := List.mem_map.mp hy
              obtain ⟨i, hi, e1⟩ := List.mem_iff_getElem.mp hv
              obtain ⟨c, e2, hc⟩ := hf i v (by rw [List.getElem?_eq_getElem hi, e1])
              subst e2
              exact ⟨c, e.symm, hc⟩
          have hyl : ys.length = n8.toNat := by rw [← hl, ey, List.length_map]
          have flat : ∀ l : List Str, (∀ y ∈ l, ∃ c, y = ⟨#[c]⟩ ∧ isLet c = true) → (l.map fun y => y.cps.toList).flatten.length = l.length ∧ (∀ c ∈ (l.map fun y => y.cps.toList).flatten, isLet c = true) ∧ (l.map (·.length)).sum = l.length := by
            intro l
            induction l with
            | nil => intro _; simp
            | cons y r ih =>
              intro h
              obtain ⟨c, rfl, hc⟩ := h _ List.mem_cons_self
              obtain ⟨i1, i2, i3⟩ := ih fun z hz => h z (List.mem_cons_of_mem _ hz)
              refine ⟨by simp at i1 ⊢; omega, fun d hd => ?_, ?_⟩
              · simp at hd
                rcases hd with h1 | h1
                · rw [h1]; exact hc
                · exact i2 d (by simpa using h1)
              · simp only [List.map_cons, List.sum_cons, List.length_cons]
                have : (⟨#[c]⟩ : Str).length = 1 := rfl
                omega
          obtain ⟨f1, f2, f3⟩ := flat ys hy
          subst ey
          refine w_join (SqL.of ha) (by rw [f3]; show _ + _ * 0 ≤ _; omega) ?_
          rw [txt_join_eq]
          generalize hst : Str.join (Str.ofString "") ys = stem
          have est : stem.cps.toList = (ys.map fun y => y.cps.toList).flatten := by rw [← hst]; exact join0_list ys
          have lst : stem.length = n8.toNat := by rw [len_list, est, f1, hyl]
          have s05 : Same H H5 := (s03.trans s4).trans s5
          tm_at "wp"
          refine w_lenS (sz_le (by omega)) ?_
          tm_at "wp"
          refine ⟨p, _, rfl, s05 _ _ hp, by omega, by omega, fun at_ H6 a0 a1 s6 => ?_⟩
          have s06 := s05.trans s6
          obtain ⟨q, rfl⟩ := Int.eq_ofNat_of_zero_le a0
          have hsz : stem.cps.size = stem.length := rfl
          tm_at "wp"
          refine w_onR1 ⟨by omega, by omega⟩ ?_
          intro D1 hD1
          refine lc_map walk_range (n := m.toNat) (by omega) (fun i y => y = .str (wordC b.toNat (stem.cps.toList.take q) (stem.cps.toList.drop q) i)) hD1 (fun _ _ => trivial) ?_ ?_ mono_gname
          · rintro i y H7 H8 hi s7 ⟨rfl, rfl⟩ Qy hq
            have c1 : cutS stem none (some ((q : Nat) : Int)) = ⟨(stem.cps.toList.take q).toArray⟩ := by
              unfold cutS
              rw [HT.sIx_nat, HT.sIx_none, Nat.min_eq_left (by omega)]
              simp
            have c2 : cutS stem (some ((q : Nat) : Int)) none = ⟨(stem.cps.toList.drop q).toArray⟩ := by
              unfold cutS
              rw [HT.sIx_nat, HT.sIx_none, Nat.min_eq_left (by omega)]
              have : stem.cps.toList.length = stem.length := (len_list stem).symm
              rw [List.take_of_length_le (by rw [List.length_drop]; omega)]
            refine w_gname ⟨rfl, ?_⟩
            tm_at "wp"
            refine w_slS (sz_le (by omega)) ?_
            tm_at "wp"
            refine w_ixS (z := letters) (by decide +kernel) (letters_at (Int.emod_nonneg _ (by decide)) (Int.emod_lt_of_pos _ (by decide))) ?_
            rw [c1]
            refine w_addS (sz_le ?_) ?_
            · rw [len_list, len_list]; simp; omega
            tm_at "wp"
            refine w_slS (sz_le (by omega)) ?_
            rw [c2]
            refine w_addS (sz_le ?_) (hq _ _ (Same.refl _) ?_)
            · rw [len_list, len_list, app_list]; simp; omega
            · congr 1
              refine str_ext ?_
              rw [app_list, app_list]
              unfold wordC
              rw [show ((b + 5 * (0 + (i : Int))) % 26).toNat = (b.toNat + 5 * i) % 26 by omega]
              simp
          · intro acc2 H7 s7 h02 ha2 hl2 hf2
            refine fin _ D1 acc2 H6 H7 s06 h02 s7 ha2 hl2 hf2 (wordC_all (by omega) (fun c hc => f2 c (est ▸ List.mem_of_mem_take hc)) (fun c hc => f2 c (est ▸ List.mem_of_mem_drop hc)) ?_)
            rw [List.length_take, List.length_drop, ← len_list]; omega
theorem ok__law_often {P : Program} {w : World} {K : PySem.W.Frag} {mg : Str → Option Value} {base : Heap} (fr : Fre mg) (D : Dfd K mg "_law_often" s__law_often)
    (h__law_draw : Has P w K mg base CX0 1 "_law_draw" s__law_draw ["_law_pool_here", "_law_many"] (sp__law_draw K)) : Has P w K mg base CX0 2 "_law_often" s__law_often ["_law_pool_here"] (sp__law_often K) := by
  refine D.has sc__law_often (fun vs H Q E h => ?_) (fun cdv A outer s H vs Q E hr hg h => ?_)
  · obtain ⟨p, rfl, _⟩ := h; rfl
  · obtain ⟨p, rfl, hp, k⟩ := h
    have nd := sc__law_often.nd
    refine ⟨_, PSs.nox (pss_cons (ps_set (i := 1) nd rfl (Or.inl rfl) (pe_fn h__law_draw pb__law_draw (hr.mono (by decide)) hg rfl pass0 (pa_cons (pv 0) (pa_cons pe_int pa_nil))))
      (pss_one (ps_ret (pe_ix (k_ixL K) (pe_lst (pa_cons pe_int (pa_cons pe_int (pa_cons pe_int (pa_cons (pe_op op_add pe_int (pe_fn h__law_draw pb__law_draw (hr.mono (by decide)) hg rfl pass0 (pa_cons (pv 0) (pa_cons pe_int pa_nil)))) (pa_cons (pe_op op_add pe_int (pe_fn h__law_draw pb__law_draw (hr.mono (by decide)) hg rfl pass0 (pa_cons (pv 0) (pa_cons (pe_op op_pow pe_int pe_int) pa_nil)))) (pa_cons (pe_op op_pow pe_int pe_int) pa_nil))))))) (pv 1) (fun _ _ => rfl))))), ?_⟩
    try dsimp only [cxOf]
    tm_at "wp"
    refine ⟨p, 6, rfl, hp, by decide, by decide, fun way H1 w0 w1 s1 => ?_⟩
    tm_at "wp"
    refine ⟨p, 30, rfl, s1 _ _ hp, by decide, by decide, fun a H2 a0 a1 s2 => ?_⟩
    have s02 := s1.trans s2
    tm_at "wp"
    refine ⟨p, _, rfl, s02 _ _ hp, by decide, by decide, fun b H3 b0 b1 s3 => ?_⟩
    have s03 := s02.trans s3
    tm_at "wp"
    rename_i q hq
    have s04 : Same H (upd H3 q (.lst [.int 1, .int 2, .int 3, .int (1 + a), .int (1 + b), .int ((10 : Int) ^ (30 : Int).toNat)])) := same_step s03 hq
    have e30 : (10 : Int) ^ (30 : Int).toNat = 10 ^ 30 := by decide
    rw [e30] at b1 s04 ⊢
    obtain ⟨n, rfl⟩ := Int.eq_ofNat_of_zero_le w0
    have fin : ∀ r : Int, 1 ≤ r → r ≤ 10 ^ 30 → [V.int 1, .int 2, .int 3, .int (1 + a), .int (1 + b), .int (10 ^ 30)][n]? = some (.int r) → rIxL K (.ref q) (.int ((n : Nat) : Int)) (upd H3 q (.lst [.int 1, .int 2, .int 3, .int (1 + a), .int (1 + b), .int (10 ^ 30)])) Q := fun r r0 r1 e =>
      w_ixL (SqL.of upd_same) (atI_nat e) (k r _ r0 r1 s04)
    have hn : n < 6 := by omega
    match n, hn with
    | 0, _ => exact fin 1 (by decide) (by decide) rfl
    | 1, _ => exact fin 2 (by decide) (by decide) rfl
    | 2, _ => exact fin 3 (by decide) (by decide) rfl
    | 3, _ => exact fin (1 + a) (by omega) (by omega) rfl
    | 4, _ => exact fin (1 + b) (by omega) (by omega) rfl
    | 5, _ => exact fin (10 ^ 30) (by decide) (by decide) rfl
theorem ok__law_path {P : Program} {w : World} {K : PySem.W.Frag} {mg : Str → Option Value} {base : Heap} (fr : Fre mg) (D : Dfd K mg "_law_path" s__law_path)
    (h__law_draw : Has P w K mg base CX0 1 "_law_draw" s__law_draw ["_law_pool_here", "_law_many"] (sp__law_draw K))
    (h__law_often : Has P w K mg base CX0 2 "_law_often" s__law_often ["_law_pool_here"] (sp__law_often K)) : Has P w K mg base CX0 3 "_law_path" s__law_path ["_law_pool_here", "_law_words_here", "_law_many", "_law_most"] (sp__law_path K) := by
  refine D.has sc__law_path (fun vs H Q E h => ?_) (fun cdv A outer s H vs Q E hr hg h => ?_)
  · obtain ⟨p, a, ws, n, m, rfl, _⟩ := h; rfl
  · obtain ⟨p, a, ws, n, m, rfl, hp, hs, hw, hw1, hn, m0, m1, k⟩ := h
    have nd := sc__law_path.nd
    refine ⟨_, PSs.nox (pss_cons (ps_set (i := 4) nd rfl (Or.inl rfl) (pe_lst pa_nil))
      (pss_cons (ps_for PassesOwn.never rfl (pi_range1 rfl fr.range_ (pa_cons (pe_fn h__law_draw pb__law_draw (hr.mono (by decide)) hg rfl pass0 (pa_cons (pv 0) (pa_cons (pe_op op_add (pv 2) pe_int) pa_nil))) pa_nil)) (pg_name (i := 5) nd rfl (Or.inl rfl))
        (pss_cons (ps_set (i := 6) nd rfl (Or.inl rfl) (pe_ix (k_ixL K) (pv 1) (pe_fn h__law_draw pb__law_draw (hr.mono (by decide)) hg rfl pass0 (pa_cons (pv 0) (pa_cons (pe_callB (k_len K) rfl fr.len_ (by decide +kernel) (pa_cons (pv 1) pa_nil)) pa_nil))) (fun _ _ => rfl)))
      (pss_one (ps_expr (k_bm K PySem.F.plainAttrs_list PySem.F.slot_list_append PySem.F.type_list_append mt_append (pv 4) (pa_cons (pe_tup (pa_cons (pv 6) (pa_cons (pe_ifExp (pt_cmpR op_eq (pv 3) pe_int (nomark _)) (pe_fn h__law_often pb__law_often (hr.mono (by decide)) hg rfl pass0 (pa_cons (pv 0) pa_nil)) (pe_op op_add pe_int (pe_fn h__law_draw pb__law_draw (hr.mono (by decide)) hg rfl pass0 (pa_cons (pv 0) (pa_cons (pv 3) pa_nil))))) pa_nil))) pa_nil))))))
      (pss_one (ps_ret (pe_callTy (k_tuple K) rfl fr.tuple_ (by decide +kernel) (pa_cons (pv 4) pa_nil)))))), ?_⟩
    try dsimp only [cxOf]
    tm_at "wp"
    rename_i l hl
    have sA : Same H (upd H l (.lst [])) := same_new hl
    refine ⟨p, _, rfl, sA _ _ hp, by omega, by omega, fun r H1 r0 r1 s1 => ?_⟩
    have s01 := sA.trans s1
    obtain ⟨r, rfl⟩ := Int.eq_ofNat_of_zero_le r0
    have hrn : r ≤ n := by omega
    tm_at "wp"
    refine w_onR1 ⟨by omega, by omega⟩ ?_
    have er : ((r : Nat) : Int).toNat = r := by omega
    rw [er]
    refine for_go walk_range (fun i σ H' => ∃ (u w : Option V) (ps : Bag) (xs : List V), σ = [some (.ref p), some (.ref a), some (.int (n : Nat)), some (.int m), some (.ref l), u, w] ∧ Same H H' ∧ H' l = some (.lst xs) ∧ DpAll K H' xs (ps.map pairD) ∧ ps.length = i ∧ (∀ q ∈ ps, q.1 ∈ ws) ∧ (∀ q ∈ ps, 1 ≤ q.2) ∧ (∀ q ∈ ps, q.2 ≤ 10 ^ 30) ∧ (0 < m → ∀ q ∈ ps, q.2 ≤ m))
      ⟨none, none, [], [], rfl, s01, s1 _ _ upd_same, .nil, rfl, nofun, nofun, nofun, fun _ => nofun⟩ (fun _ _ _ _ _ => trivial) ?_ ?_
    · rintro i y σ H2 H3 hi ⟨u, w, ps, xs, rfl, s2, hl2, hd, hlen, c1, c2, c3, c4⟩ ⟨rfl, rfl⟩
      have hxl : xs.length = ps.length := by rw [dps_len hd, List.length_map]
      tm_at "wp"
      refine w_lenL (s2.seq hs) ?_
      tm_at "wp"
      rw [List.length_map]
      refine ⟨p, _, rfl, s2 _ _ hp, by omega, by omega, fun j H4 j0 j1 s4 => ?_⟩
      obtain ⟨j, rfl⟩ := Int.eq_ofNat_of_zero_le j0
      have hj : j < ws.length := by omega
      have s02 := s2.trans s4
      refine w_ixL (v := .str ws[j]) (s02.seq hs) (atI_nat (by rw [List.getElem?_map, List.getElem?_eq_getElem hj]; rfl)) ?_
      tm_at "wp"
      refine w_tyL (s4 _ _ hl2) ?_
      tm_at "wp"
      have app : ∀ (c : Int) (T : Addr) H', 1 ≤ c → c ≤ 10 ^ 30 → (0 < m → c ≤ m) → Same H4 H' → H' T = none → ∀ u' w' : Option V, rAppend (.ref l) [.ref T] (upd H' T (.tup [.str ws[j], .int c])) (fun _ H3 => ∃ (u w : Option V) (ps : Bag) (xs : List V), [some (V.ref p), some (V.ref a), some (V.int (n : Nat)), some (V.int m), some (V.ref l), u', w'] = [some (.ref p), some (.ref a), some (.int (n : Nat)), some (.int m), some (.ref l), u, w] ∧ Same H H3 ∧ H3 l = some (.lst xs) ∧ DpAll K H3 xs (ps.map pairD) ∧ ps.length = i + 1 ∧ (∀ q ∈ ps, q.1 ∈ ws) ∧ (∀ q ∈ ps, 1 ≤ q.2) ∧ (∀ q ∈ ps, q.2 ≤ 10 ^ 30) ∧ (0 < m → ∀ q ∈ ps, q.2 ≤ m)) := by
        intro c T H' c0 c1' c2' s' hT u' w'
        have hl3 : (upd H' T (.tup [.str ws[j], .int c])) l = some (.lst xs) := hp_new (s' _ _ (s4 _ _ hl2)) hT
        have ext : ∀ {R : Str × Int → Prop}, (∀ q ∈ ps, R q) → R (ws[j], c) → ∀ q ∈ ps ++ [(ws[j], c)], R q := fun h1 h2 q hq => by
          rcases List.mem_append.mp hq with h | h
          · exact h1 q h
          · rw [List.mem_singleton] at h; subst h; exact h2
        refine w_append hl3 (sz_lt (by omega)) ⟨u', w', ps ++ [(ws[j], c)], xs ++ [.ref T], rfl, same_mut (same_step (s02.trans s') hT) hl, upd_same, ?_, by simp [hlen], ext c1 (List.getElem_mem hj), ext c2 c0, ext c3 c1', fun h => ext (c4 h) (c2' h)⟩
        have st : SameT (upd H' T (.tup [.str ws[j], .int c])) (upd (upd H' T (.tup [.str ws[j], .int c])) l (.lst (xs ++ [.ref T]))) := SameT.lst hl3
        rw [List.map_append]
        refine dps_snoc ?_ ?_
        · exact dps_flat st (dps_same ((s4.trans s').trans (same_new hT)) hd) (by have := flat_bag ps; simpa [bagD, flatD] using this)
        · exact pair_mk (st.sqt (SqT.of upd_same))
      refine w_ited (fun h2 => ?_) (fun h2 => ?_)
      · tm_at "wp"
        refine ⟨p, rfl, s02 _ _ hp, fun c H5 c0 c1 s5 => ?_⟩
        tm_at "wp"
        rename_i T hT
        exact app c T H5 c0 c1 (fun h => by omega) s5 hT _ _
      · tm_at "wp"
        refine ⟨p, m, rfl, s02 _ _ hp, by omega, by omega, fun c H5 c0 c1 s5 => ?_⟩
        tm_at "wp"
        rename_i T hT
        exact app (1 + c) T H5 (by omega) (by omega) (fun h => by omega) s5 hT _ _
    · rintro σ H2 ⟨u, w, ps, xs, rfl, s2, hl2, hd, hlen, c1, c2, c3, c4⟩
      tm_at "wp"
      refine w_tupL (SqL.of hl2) ?_
      intro T hT
      exact k (.ref T) ps _ (same_step s2 hT) (.tup (SqT.of upd_same) (dps_same (same_new hT) hd)) (by omega) c1 c2 c3 c4
theorem ok__law_flat {P : Program} {w : World} {K : PySem.W.Frag} {mg : Str → Option Value} {base : Heap} (fr : Fre mg) (D : Dfd K mg "_law_flat" s__law_flat) : Has P w K mg base CX0 1 "_law_flat" s__law_flat ["_law_held"] (sp__law_flat K) := by
  refine D.has sc__law_flat (fun vs H Q E h => ?_) (fun cdv A outer s H vs Q E hr hg h => ?_)
  · obtain ⟨a, t, rfl, _⟩ := h; rfl
  · obtain ⟨a, t, rfl, ha, hn, hl, hpos, k⟩ := h
    have nd := sc__law_flat.nd
    refine ⟨_, PSs.nox (pss_one (ps_ret (pe_callTy (k_tuple K) rfl fr.tuple_ (by decide +kernel) (pa_cons (pe_lc (own := [("_law_word", 1)]) (g := gName 1) (tt := tYes) rfl nd (k_iList K (pe_callB (c_sortedDk rfl) rfl fr.sorted_ (by decide +kernel) (pa_cons (pv 0) pa_nil))) (blkOk_by (own := [("_law_word", 1)]) (N := N__law_flat) (sc := defScope s__law_flat) (by decide +kernel)) (fun _ _ _ _ _ => (pg_name (i := 1) nd rfl (Or.inl rfl))) (fun _ _ _ _ _ => pts_nil) (fun _ _ _ _ _ => (pe_tup (pa_cons (pv 1) (pa_cons (pe_dget (hu_of hr) (pv 0) (pv 1) (fun _ _ => rfl)) pa_nil))))) pa_nil)))), ?_⟩
    try dsimp only [cxOf]
    tm_at "wp"
    refine w_sortedDk ha hl ?_
    intro ys q hperm hsorted hq
    have asc := sorted_asc hsorted (hperm.nodup_iff.mpr hn)
    have hlen : ys.length = t.length := by rw [hperm.length_eq, List.length_map]
    refine w_onL (SqL.of upd_same) ?_
    intro D0 hD
    refine lc_dat K (walk_list (xs := ys.map V.str)) (by rw [List.length_map]; omega) (fun i d => ∃ y, ys[i]? = some y ∧ d = pairD (y, getT t y)) hD (fun _ s => s.seq (SqL.of upd_same)) ?_ ?_ mono_gname
    · rintro i y H1 H2 hi s ⟨rfl, hy⟩ Qy hq1
      rw [List.length_map] at hi
      have ey : y = .str ys[i] := by rw [List.getElem?_map, List.getElem?_eq_getElem hi] at hy; exact (Option.some.inj hy).symm
      subst ey
      have hin : ys[i] ∈ t.map (·.1) := hperm.mem_iff.mp (List.getElem_mem hi)
      have ha1 : H2 a = some (.dK (kvOf t)) := s _ _ (hp_new ha hq)
      refine w_gname ⟨rfl, ?_⟩
      tm_at "wp"
      refine w_dgetc ha1 (kv_some hin) ?_
      tm_at "wp"
      rename_i T hT
      exact hq1 _ _ _ (same_new hT) (pair_mk (SqT.of upd_same)) rfl ⟨_, List.getElem?_eq_getElem hi, rfl⟩
    · intro acc ds H1 s1 _ hacc hdp _ hdl hR
      have e0 : ds = ys.map fun y => pairD (y, getT t y) := ds_eq (by rw [hdl, List.length_map]) hR
      have e : ds = (canF (getT t) ys).map pairD := by
        rw [e0]
        unfold canF
        rw [List.map_filterMap]
        rw [← List.filterMap_eq_map]
        refine fm_congr fun y hy => ?_
        rw [if_pos (hpos y (hperm.mem_iff.mp hy))]; rfl
      rw [e] at hdp
      tm_at "wp"
      refine w_tupL (SqL.of hacc) ?_
      intro T hT
      refine k (.ref T) _ _ (((same_new hq).trans s1).trans (same_new hT)) (.tup (SqT.of upd_same) (dps_same (same_new hT) hdp)) (canF_can hperm asc) (by have := canF_len (getT t) ys; omega) fun p hp => hperm.mem_iff.mp (canF_mem hp).1
theorem ok__law_is_run {P : Program} {w : World} {K : PySem.W.Frag} {mg : Str → Option Value} {base : Heap} (fr : Fre mg) (D : Dfd K mg "_law_is_run" s__law_is_run) : Has P w K mg base CX0 1 "_law_is_run" s__law_is_run ["_law_held"] (sp__law_is_run K) := by
  refine D.has sc__law_is_run (fun vs H Q E h => ?_) (fun cdv A outer s H vs Q E hr hg h => ?_)
  · obtain ⟨v, d, rfl, _⟩ := h; rfl
  · obtain ⟨v, d, rfl, hd, hz, k⟩ := h
    have nd := sc__law_is_run.nd
    refine ⟨_, PSs.nox (pss_cons (ps_if (PW.pt (pw_or (pt_not (pt_val (pe_callB (k_isi K) rfl fr.isinstance_ (by decide +kernel) (pa_cons (pv 0) (pa_cons (pe_bltn (v := .ty "tuple") rfl fr.tuple_ boot_tuple rfl) pa_nil))))) (pw_or (pt_cmpR op_ne (pe_callB (k_len K) rfl fr.len_ (by decide +kernel) (pa_cons (pv 0) pa_nil)) pe_int (nomark _)) (pw_or1 (pt_not (pt_val (pe_callB (k_isi K) rfl fr.isinstance_ (by decide +kernel) (pa_cons (pe_ix (k_ixT K) (pv 0) pe_int (fun _ _ => rfl)) (pa_cons (pe_bltn (v := .ty "str") rfl fr.str_ boot_str rfl) pa_nil))))))))) (pss_one (ps_ret pe_bl)) pss_nil)
      (pss_cons (ps_if (PW.pt (pw_or (pt_not (pt_chain op_lt op_lt pe_int (pe_callB (k_len K) rfl fr.len_ (by decide +kernel) (pa_cons (pe_ix (k_ixT K) (pv 0) pe_int (fun _ _ => rfl)) pa_nil)) pe_int)) (pw_or1 (pt_not (pt_val (pe_callB (k_all K rfl) rfl fr.all_ (by decide +kernel) (pa_cons (pe_lc (own := [("_law_letter", 1)]) (g := gName 1) (tt := tYes) rfl nd (pi_str (pe_ix (k_ixT K) (pv 0) pe_int (fun _ _ => rfl))) (blkOk_by (own := [("_law_letter", 1)]) (N := N__law_is_run) (sc := defScope s__law_is_run) (by decide +kernel)) (fun _ _ _ _ _ => (pg_name (i := 1) nd rfl (Or.inl rfl))) (fun _ _ _ _ _ => pts_nil) (fun _ _ _ _ _ => (pe_cmpR o_inSign (pv 1) pe_str rfl))) pa_nil))))))) (pss_one (ps_ret pe_bl)) pss_nil)
      (pss_one (ps_ret (pe_and (pe_callB (k_isi K) rfl fr.isinstance_ (by decide +kernel) (pa_cons (pe_ix (k_ixT K) (pv 0) pe_int (fun _ _ => rfl)) (pa_cons (pe_bltn (v := .ty "int") rfl fr.int_ boot_int rfl) pa_nil))) (pe_and (pe_not (pe_callB (k_isi K) rfl fr.isinstance_ (by decide +kernel) (pa_cons (pe_ix (k_ixT K) (pv 0) pe_int (fun _ _ => rfl)) (pa_cons (pe_bltn (v := .ty "bool") rfl fr.bool_ boot_bool rfl) pa_nil)))) (pe_one (pe_cmpR op_gt (pe_ix (k_ixT K) (pv 0) pe_int (fun _ _ => rfl)) pe_int (nomark _))))))))), ?_⟩
    try dsimp only [cxOf]
    tm_at "wp"
    refine w_isiX hd (isi_tup d) ?_
    cases d
    case tuple ds =>
      obtain ⟨a, xs, rfl, hs, hx⟩ := dx_tup_inv hd
      have hl := dxs_len hx
      refine w_bl ?_
      rw [show (!isTupD (.tuple ds)) = false from rfl, if_neg (by decide)]
      tm_at "wp"
      refine w_lenT hs ?_
      tm_at "wp"
      by_cases h1 : ((xs.length : Nat) : Int) = 2
      rotate_left
      · have e : runD (.tuple ds) = false := by
          unfold runD
          split
          · exfalso; rename_i heq; injection heq with heq; subst heq; exact h1 (by rw [hl]; rfl)
          · rfl
        rw [e] at k
        rw [decide_eq_false h1, if_pos (by rfl), if_pos rfl]
        tm_at "wp"
        exact k _ (Same.refl _)
      obtain ⟨d0, d1, rfl⟩ : ∃ d0 d1, ds = [d0, d1] := by
        match ds, (by omega : ds.length = 2) with
        | [d0, d1], _ => exact ⟨d0, d1, rfl⟩
      cases hx with
      | @cons v0 _ _ _ r0 hx =>
      cases hx with
      | @cons v1 _ _ _ r1 hx =>
      cases hx
      have z0 : szD d0 = true := szDs_get (ds := [d0, d1]) (i := 0) (by simpa [szD] using hz) rfl
      have ek : runD (.tuple [d0, d1]) = (nameD d0 && fromD d1 1) := rfl
      rw [decide_eq_true h1, if_neg (by decide)]
      tm_at "wp"
      refine w_ixT hs (v := v0) rfl ?_
      tm_at "wp"
      refine w_isiX r0 (isi_str d0) ?_
      refine w_bl ?_
      by_cases h2 : isStrD d0 = true
      rotate_left
      · have e : nameD d0 = false := by
          cases d0 <;> first | rfl | exact absurd rfl h2
        rw [ek, e] at k
        rw [show isStrD d0 = false by simpa using h2, if_pos (by rfl)]
        tm_at "wp"
        exact k _ (Same.refl _)
      obtain ⟨x, rfl⟩ : ∃ x, d0 = .str x := by
        cases d0 <;> first | exact ⟨_, rfl⟩ | cases h2
      cases dx_str_inv r0
      rw [h2, if_neg (by decide)]
      tm_at "wp"
      have hx : x.length ≤ 100000 := by simpa [szD] using z0
      have ek2 : ¬ (0 < x.length ∧ x.length < 9) → nameD (.str x) = false := fun h => by
        show isName x = false
        unfold isName
        by_cases y : 0 < x.length
        · rw [decide_eq_false (show ¬ x.length < 9 from fun z => h ⟨y, z⟩)]; simp
        · rw [decide_eq_false y]; simp
      refine w_ixT hs (v := .str x) rfl ?_
      tm_at "wp"
      refine w_lenS (sz_le hx) ?_
      tm_at "wp"
      by_cases h3 : (0 : Int) < ((x.length : Nat) : Int)
      rotate_left
      · rw [decide_eq_false h3]
        rw [if_neg (by decide)]
        have e : nameD (.str x) = false := ek2 (by omega)
        rw [ek, e] at k
        refine w_bl ?_
        rw [if_pos (by rfl), if_pos rfl]
        tm_at "wp"
        exact k _ (Same.refl _)
      rw [decide_eq_true h3, if_pos rfl]
      tm_at "wp"
      by_cases h4 : ((x.length : Nat) : Int) < 9
      rotate_left
      · rw [decide_eq_false h4]
        rw [if_pos (by rfl), if_pos rfl]
        have e : nameD (.str x) = false := ek2 (by omega)
        rw [ek, e] at k
        tm_at "wp"
        exact k _ (Same.refl _)
      rw [decide_eq_true h4, if_neg (by decide)]
      tm_at "wp"
      refine w_ixT hs (v := .str x) rfl ?_
      refine w_onS ?_
      intro D0 hD
      refine lc_map walk_str (n := x.cps.size) (by have : x.length = x.cps.size := rfl; omega) (fun i y => ∃ c, x.cps.toList[i]? = some c ∧ y = .bl (isLet c)) hD (fun _ _ => trivial) ?_ ?_ mono_gname
      · rintro i y H1 H2 hi s ⟨rfl, c, hc, rfl⟩ Qy hq
        refine w_gname ⟨rfl, ?_⟩
        tm_at "wp"
        refine hq _ _ (Same.refl _) ⟨c, by simpa using hc, ?_⟩
        show V.bl (decide (c ∈ letters.cps.toList)) = _
        rw [mem_letters]
      intro acc H1 s1 _ hacc hla hf
      have e : acc = (x.cps.toList.map isLet).map V.bl := by
        rw [List.map_map]
        exact acc_map (by simpa using hla) hf
      rw [e] at hacc
      have hs1 := sqt_same s1 hs
      have r11 := dx_same s1 r1
      have en : (List.map isLet x.cps.toList).all id = nameD (.str x) := by
        show _ = isName x
        rw [all_map_id]
        unfold isName
        rw [decide_eq_true (show 0 < x.length by omega), decide_eq_true (show x.length < 9 by omega)]
        simp
      tm_at "wp"
      refine w_all (SqL.of hacc) ?_
      rw [en]
      refine w_bl ?_
      cases hn : nameD (.str x) with
      | false =>
        rw [ek, hn] at k
        rw [if_pos (by rfl)]
        tm_at "wp"
        exact k _ s1
      | true =>
        rw [ek, hn] at k
        rw [if_neg (by decide)]
        tm_at "wp"
        refine w_ixT hs1 (v := v1) rfl ?_
        tm_at "wp"
        refine w_isiX r11 (isi_int d1) ?_
        refine w_bl ?_
        cases d1
        case bool b =>
          rw [show isIntD (.bool b) = true from rfl, if_pos rfl]
          tm_at "wp"
          refine w_ixT hs1 (v := v1) rfl ?_
          tm_at "wp"
          refine w_isiX r11 (isi_bool _) ?_
          refine w_bl ?_
          refine w_bl ?_
          rw [show isBoolD (.bool b) = true from rfl, if_neg (by decide)]
          exact k _ s1
        case int i =>
          cases dx_int_inv r11
          rw [show isIntD (.int i) = true from rfl, if_pos rfl]
          tm_at "wp"
          refine w_ixT hs1 (v := .int i) rfl ?_
          tm_at "wp"
          refine w_isiX r11 (isi_bool (.int i)) ?_
          refine w_bl ?_
          refine w_bl ?_
          rw [show isBoolD (.int i) = false from rfl, if_pos (by rfl)]
          tm_at "wp"
          refine w_ixT hs1 (v := .int i) rfl ?_
          tm_at "wp"
          rw [show (true && fromD (.int i) 1) = decide (0 < i) from by show decide (1 ≤ i) = _; exact decide_eq_decide.mpr (by omega)] at k
          exact k _ s1
        all_goals
          rw [if_neg (by nofun)]
          exact k _ s1
    all_goals
      refine w_bl ?_
      rw [if_pos (by rfl), if_pos rfl]
      tm_at "wp"
      exact k _ (Same.refl _)
theorem ok__law_is_path {P : Program} {w : World} {K : PySem.W.Frag} {mg : Str → Option Value} {base : Heap} (fr : Fre mg) (D : Dfd K mg "_law_is_path" s__law_is_path)
    (h__law_is_run : Has P w K mg base CX0 1 "_law_is_run" s__law_is_run ["_law_held"] (sp__law_is_run K)) : Has P w K mg base CX0 2 "_law_is_path" s__law_is_path ["_law_held"] (sp__law_is_path K) := by
  refine D.has sc__law_is_path (fun vs H Q E h => ?_) (fun cdv A outer s H vs Q E hr hg h => ?_)
  · obtain ⟨v, d, rfl, _⟩ := h; rfl
  · obtain ⟨v, d, rfl, hd, hz, hl5, k⟩ := h
    have nd := sc__law_is_path.nd
    refine ⟨_, PSs.nox (pss_cons (ps_if (PW.pt (pw_or (pt_not (pt_val (pe_callB (k_isi K) rfl fr.isinstance_ (by decide +kernel) (pa_cons (pv 0) (pa_cons (pe_bltn (v := .ty "tuple") rfl fr.tuple_ boot_tuple rfl) pa_nil))))) (pw_or (pt_cmpR op_gt (pe_callB (k_len K) rfl fr.len_ (by decide +kernel) (pa_cons (pv 0) pa_nil)) pe_int (nomark _)) (pw_or1 (pt_not (pt_val (pe_callB (k_all K rfl) rfl fr.all_ (by decide +kernel) (pa_cons (pe_lc (own := [("_law_run", 1)]) (g := gName 1) (tt := tYes) rfl nd (k_iTup K (pv 0)) (blkOk_by (own := [("_law_run", 1)]) (N := N__law_is_path) (sc := defScope s__law_is_path) (by decide +kernel)) (fun _ _ _ _ _ => (pg_name (i := 1) nd rfl (Or.inl rfl))) (fun _ _ _ _ _ => pts_nil) (fun _ _ _ _ _ => (pe_fn h__law_is_run pb__law_is_run (hr.mono (by decide)) hg rfl pass0 (pa_cons (pv 1) pa_nil)))) pa_nil)))))))) (pss_one (ps_ret pe_bl)) pss_nil)
      (pss_one (ps_ret (pe_cmpR op_lt (k_lenSetS K rfl rfl fr.len_ rfl fr.set_ (pe_lc (own := [("_law_run", 1)]) (g := gName 1) (tt := tYes) rfl nd (k_iTup K (pv 0)) (blkOk_by (own := [("_law_run", 1)]) (N := N__law_is_path) (sc := defScope s__law_is_path) (by decide +kernel)) (fun _ _ _ _ _ => (pg_name (i := 1) nd rfl (Or.inl rfl))) (fun _ _ _ _ _ => pts_nil) (fun _ _ _ _ _ => (pe_ix (k_ixT K) (pv 1) pe_int (fun _ _ => rfl))))) pe_int (nomark _))))), ?_⟩
    try dsimp only [cxOf]
    tm_at "wp"
    refine w_isiX hd (isi_tup d) ?_
    cases d
    case tuple ds =>
      obtain ⟨a, xs, rfl, hs, hx⟩ := dx_tup_inv hd
      have hl := dxs_len hx
      have hl5 := hl5 ds rfl
      refine w_bl ?_
      rw [show (!isTupD (.tuple ds)) = false from rfl, if_neg (by decide)]
      tm_at "wp"
      refine w_lenT hs ?_
      tm_at "wp"
      have ea := ord_all ds
      have rF : orderD (.tuple ds) = false → ∀ H', Same H H' → Q (.bl false) H' := fun e H' s => by rw [e] at k; exact k H' s
      by_cases h1 : (1000 : Int) < ((xs.length : Nat) : Int)
      · rw [decide_eq_true h1, if_pos rfl, if_pos rfl]
        tm_at "wp"
        refine rF ?_ _ (Same.refl _)
        rw [ea, decide_eq_false (show ¬ ds.length ≤ 1000 by omega)]; rfl
      rw [decide_eq_false h1, if_neg (by decide)]
      tm_at "wp"
      refine w_onT hs ?_
      intro D hD
      refine lc_map (walk_tup (xs := xs)) (n := xs.length) (by omega) (fun i y => ∃ d, ds[i]? = some d ∧ y = .bl (runD d)) hD (fun _ s => sqt_same s hs) ?_ ?_ mono_gname
      · rintro i y G1 G2 hi sg ⟨rfl, hy⟩ Qy hq
        obtain ⟨d, e1, e2⟩ := dxs_get hx hy
        refine w_gname ⟨rfl, ?_⟩
        tm_at "wp"
        exact ⟨y, d, rfl, dx_same sg e2, szDs_get (by simpa [szD] using hz) e1, fun G3 s3 => hq _ _ s3 ⟨d, e1, rfl⟩⟩
      intro acc H1 s1 _ hacc hal hf
      have e : acc = (ds.map runD).map V.bl := by
        rw [List.map_map]
        exact acc_map (by omega) hf
      rw [e] at hacc
      tm_at "wp"
      refine w_all (SqL.of hacc) ?_
      rw [all_map_id]
      refine w_bl ?_
      by_cases h2 : ds.all runD = true
      rotate_left
      · rw [show ds.all runD = false by simpa using h2, if_pos (by rfl)]
        tm_at "wp"
        refine rF ?_ _ s1
        rw [ea, show ds.all runD = false by simpa using h2]; simp
      rw [h2, if_neg (by decide)]
      obtain ⟨ps, rfl, hps⟩ := runs_of fun d hd => List.all_eq_true.mp h2 d hd
      have hd1 := dx_bag (dx_same s1 hd)
      obtain ⟨b, zs, eb, hbs, hzx, hzl⟩ := bag_inv hd1
      cases eb
      tm_at "wp"
      refine w_lenSetS ?_
      tm_at "wp"
      refine w_onT hbs ?_
      intro D2 hD2
      refine lc_map (walk_tup (xs := zs)) (n := zs.length) (by rw [List.length_map] at hl; omega) (fun i y => ∃ p, ps[i]? = some p ∧ y = .str p.1) hD2 (fun _ s => sqt_same s hbs) ?_ ?_ mono_gname
      · rintro i y G1 G2 hi sg ⟨rfl, hy⟩ Qy hq
        obtain ⟨p, b, e1, rfl, hb⟩ := bag_get hzx hy
        refine w_gname ⟨rfl, ?_⟩
        tm_at "wp"
        refine w_ixT (sqt_same sg hb) (v := .str p.1) rfl ?_
        exact hq _ _ (Same.refl _) ⟨p, e1, rfl⟩
      intro acc2 H4 s4 _ hacc2 hal2 hf2
      have e3 : acc2 = (ps.map (·.1)).map V.str := by
        rw [List.map_map]
        exact acc_map (by omega) hf2
      rw [e3] at hacc2
      refine ⟨D2, ps.map (·.1), rfl, SqL.of hacc2, by rw [List.length_map] at hl ⊢; omega, fun c hc => ?_⟩
      have ec := dst_names hc
      tm_at "wp"
      have ef : orderD (.tuple (ps.map pairD)) = decide (((c : Nat) : Int) < 13) := by
        rw [ea, h2, decide_eq_true (show (ps.map pairD).length ≤ 1000 by omega), nmD_map, ec]
        simp only [Bool.true_and]
        exact decide_eq_decide.mpr (by omega)
      rw [ef] at k
      exact k _ (s1.trans s4)
    all_goals
      refine w_bl ?_
      rw [if_pos (by rfl), if_pos rfl]
      tm_at "wp"
      exact k _ (Same.refl _)
theorem ok__law_is_scheme {P : Program} {w : World} {K : PySem.W.Frag} {mg : Str → Option Value} {base : Heap} (fr : Fre mg) (D : Dfd K mg "_law_is_scheme" s__law_is_scheme)
    (h__law_is_path : Has P w K mg base CX0 2 "_law_is_path" s__law_is_path ["_law_held"] (sp__law_is_path K)) : Has P w K mg base CX0 3 "_law_is_scheme" s__law_is_scheme ["_law_held"] (sp__law_is_scheme K) := by
  refine D.has sc__law_is_scheme (fun vs H Q E h => ?_) (fun cdv A outer s H vs Q E hr hg h => ?_)
  · obtain ⟨v, d, rfl, _⟩ := h; rfl
  · obtain ⟨v, d, rfl, hd, hO, k⟩ := h
    have nd := sc__law_is_scheme.nd
    refine ⟨_, PSs.nox (pss_cons (ps_if (PW.pt (pw_or (pt_not (pt_val (pe_callB (k_isi K) rfl fr.isinstance_ (by decide +kernel) (pa_cons (pv 0) (pa_cons (pe_bltn (v := .ty "tuple") rfl fr.tuple_ boot_tuple rfl) pa_nil))))) (pw_or (pt_cmpR op_gt (pe_callB (k_len K) rfl fr.len_ (by decide +kernel) (pa_cons (pv 0) pa_nil)) pe_int (nomark _)) (pw_or1 (pt_not (pt_val (pe_callB (k_all K rfl) rfl fr.all_ (by decide +kernel) (pa_cons (pe_lc (own := [("_law_path_here", 1)]) (g := gName 1) (tt := tYes) rfl nd (k_iTup K (pv 0)) (blkOk_by (own := [("_law_path_here", 1)]) (N := N__law_is_scheme) (sc := defScope s__law_is_scheme) (by decide +kernel)) (fun _ _ _ _ _ => (pg_name (i := 1) nd rfl (Or.inl rfl))) (fun _ _ _ _ _ => pts_nil) (fun _ _ _ _ _ => (pe_fn h__law_is_path pb__law_is_path (hr.mono (by decide)) hg rfl pass0 (pa_cons (pv 1) pa_nil)))) pa_nil)))))))) (pss_one (ps_ret pe_bl)) pss_nil)
      (pss_cons (ps_set (i := 2) nd rfl (Or.inl rfl) (pe_lst pa_nil))
      (pss_cons (ps_for PassesOwn.never rfl (k_iTup K (pv 0)) (pg_name (i := 1) nd rfl (Or.inl rfl))
        (pss_one (ps_expr (k_bm K PySem.F.plainAttrs_list PySem.F.slot_list_extend PySem.F.type_list_extend (k_extT K) (pv 2) (pa_cons (pv 1) pa_nil)))))
      (pss_one (ps_ret (pe_cmpR op_lt (k_lenSetS K rfl rfl fr.len_ rfl fr.set_ (pe_lc (own := [("_law_run", 3)]) (g := gName 3) (tt := tYes) rfl nd (k_iList K (pv 2)) (blkOk_by (own := [("_law_run", 3)]) (N := N__law_is_scheme) (sc := defScope s__law_is_scheme) (by decide +kernel)) (fun _ _ _ _ _ => (pg_name (i := 3) nd rfl (Or.inl rfl))) (fun _ _ _ _ _ => pts_nil) (fun _ _ _ _ _ => (pe_ix (k_ixT K) (pv 3) pe_int (fun _ _ => rfl))))) pe_int (nomark _))))))), ?_⟩
    try dsimp only [cxOf]
    tm_at "wp"
    refine w_isiX hd (isi_tup d) ?_
    cases d
    case tuple ds =>
      obtain ⟨a, xs, rfl, hs, hx⟩ := dx_tup_inv hd
      have hl := dxs_len hx
      have hl5 := hO.len ds rfl
      have hz : szDs ds = true := by simpa [szD] using hO.sz
      refine w_bl ?_
      rw [show (!isTupD (.tuple ds)) = false from rfl, if_neg (by decide)]
      tm_at "wp"
      refine w_lenT hs ?_
      tm_at "wp"
      have ea := plan_all ds
      have rF : planX (.tuple ds) = false → ∀ H', Same H H' → Q (.bl false) H' := fun e H' s => by rw [e] at k; exact k H' s
      by_cases h1 : (400 : Int) < ((xs.length : Nat) : Int)
      · rw [decide_eq_true h1, if_pos rfl, if_pos rfl]
        tm_at "wp"
        refine rF ?_ _ (Same.refl _)
        rw [ea, decide_eq_false (show ¬ ds.length ≤ 400 by omega)]; rfl
      rw [decide_eq_false h1, if_neg (by decide)]
      tm_at "wp"
      refine w_onT hs ?_
      intro D hD
      refine lc_map (walk_tup (xs := xs)) (n := xs.length) (by omega) (fun i y => ∃ d, ds[i]? = some d ∧ y = .bl (orderD d)) hD (fun _ s => sqt_same s hs) ?_ ?_ mono_gname
      · rintro i y G1 G2 hi sg ⟨rfl, hy⟩ Qy hq
        obtain ⟨d, e1, e2⟩ := dxs_get hx hy
        refine w_gname ⟨rfl, ?_⟩
        tm_at "wp"
        exact ⟨y, d, rfl, dx_same sg e2, szDs_get hz e1, fun rs e => hO.row ds rs rfl (e ▸ List.mem_of_getElem? e1), fun G3 s3 => hq _ _ s3 ⟨d, e1, rfl⟩⟩
      intro acc H1 s1 _ hacc hal hf
      have e : acc = (ds.map orderD).map V.bl := by
        rw [List.map_map]
        exact acc_map (by omega) hf
      rw [e] at hacc
      tm_at "wp"
      refine w_all (SqL.of hacc) ?_
      rw [all_map_id]
      refine w_bl ?_
      by_cases h2 : ds.all orderD = true
      rotate_left
      · rw [show ds.all orderD = false by simpa using h2, if_pos (by rfl)]
        tm_at "wp"
        refine rF ?_ _ s1
        rw [ea, show ds.all orderD = false by simpa using h2]; simp
      rw [h2, if_neg (by decide)]
      obtain ⟨rss, rfl, hps⟩ := ords_of fun d hd => List.all_eq_true.mp h2 d hd
      obtain ⟨hbig, _⟩ := hO.big rss rfl
      obtain ⟨a', xs', ea', hs', hx'⟩ := dp_tup_inv (dx_bags (dx_same s1 hd))
      cases ea'
      clear hx hf hal hacc e hD
      tm_at "wp"
      rename_i l hl0
      have s2 : Same H (upd H1 l (.lst [])) := same_step s1 hl0
      have hs2 := sqt_same (same_new hl0 (u := HO.lst [])) hs'
      have hx2 := dps_same (same_new hl0 (u := HO.lst [])) hx'
      have hx'l : xs'.length = rss.length := by rw [dps_len hx', List.length_map]
      refine w_onT hs2 ?_
      refine for_go (walk_tup (xs := xs')) (fun i σ H' => ∃ (u1 : Option V) (zs : List V), σ = [some (.ref a), u1, some (.ref l), none] ∧ Same H H' ∧ SqT K H' a xs' ∧ DpAll K H' xs' (rss.map bagD) ∧ H' l = some (.lst zs) ∧ DpAll K H' zs ((rss.take i).flatten.map pairD)) ⟨_, [], rfl, s2, hs2, hx2, upd_same, by simp; exact .nil⟩ (fun i σ H' _ ⟨_, _, _, _, s, _⟩ => s) ?_ ?_
      · rintro i y σ H3 H4 hi ⟨u2, zs, rfl, s3, hs3, hx3, hl3, hd3⟩ ⟨rfl, hy⟩
        obtain ⟨d, e1, hdy⟩ := dps_get hx3 hy
        rw [List.getElem?_map] at e1
        obtain ⟨rs, e2, rfl⟩ : ∃ rs, rss[i]? = some rs ∧ bagD rs = d := by
          cases h : rss[i]? with
          | none => rw [h] at e1; cases e1
          | some rs => rw [h] at e1; exact ⟨rs, rfl, Option.some.inj e1⟩
        obtain ⟨ra, ys, rfl, hrs, hry, hrl⟩ := bag_inv hdy
        have hzl : zs.length = ((rss.take i).flatten).length := by rw [dps_len hd3, List.length_map]
        have hf2 := flat_len rss (i + 1)
        rw [take_flat e2, List.length_append] at hf2
        refine w_gname ?_
        tm_at "wp"
        refine w_tyL hl3 ?_
        tm_at "wp"
        refine w_extendT hl3 hrs (sz_le (by omega)) ?_
        tm_at "wp"
        have st : SameT H4 (upd H4 l (.lst (zs ++ ys))) := SameT.lst hl3
        refine ⟨_, zs ++ ys, rfl, same_mut s3 (free_back s1 hl0), st.sqt hs3, dps_flat st hx3 (flat_bgs _), upd_same, ?_⟩
        rw [take_flat e2, List.map_append]
        exact dps_app (dps_flat st hd3 (flat_prs _)) (dps_flat st hry (flat_prs rs))
      rintro σ H3 ⟨u2, zs, rfl, s3, hs3, hx3, hl3, hd3⟩
      rw [show rss.take xs'.length = rss from List.take_of_length_le (by omega)] at hd3
      have hzl : zs.length = rss.flatten.length := by rw [dps_len hd3, List.length_map]
      have hfl := flat_len rss rss.length
      rw [List.take_of_length_le (Nat.le_refl _)] at hfl
      tm_at "wp"
      refine w_lenSetS ?_
      tm_at "wp"
      refine w_onL (SqL.of hl3) ?_
      intro D2 hD2
      refine lc_map (walk_list (xs := zs)) (n := zs.length) (by omega) (fun i y => ∃ p, rss.flatten[i]? = some p ∧ y = .str p.1) hD2 (fun _ s => SqL.of (s _ _ hl3)) ?_ ?_ mono_gname
      · rintro i y G1 G2 hi sg ⟨rfl, hy⟩ Qy hq
        obtain ⟨p, b, e1, rfl, hb⟩ := bag_get hd3 hy
        refine w_gname ⟨rfl, ?_⟩
        tm_at "wp"
        refine w_ixT (sqt_same sg hb) (v := .str p.1) rfl ?_
        exact hq _ _ (Same.refl _) ⟨p, e1, rfl⟩
      intro acc2 H4 s4 _ hacc2 hal2 hf2
      have e3 : acc2 = (rss.flatten.map (·.1)).map V.str := by
        rw [List.map_map]
        exact acc_map (by omega) hf2
      rw [e3] at hacc2
      refine ⟨D2, rss.flatten.map (·.1), rfl, SqL.of hacc2, by rw [List.length_map]; omega, fun c hc => ?_⟩
      have ec := dst_names hc
      tm_at "wp"
      have ef : planX (.tuple (rss.map bagD)) = decide (((c : Nat) : Int) < 13) := by
        rw [ea, h2, decide_eq_true (show (rss.map bagD).length ≤ 400 by omega), ordNm_all, ec]
        simp only [Bool.true_and]
        exact decide_eq_decide.mpr (by omega)
      rw [ef] at k
      exact k _ (s3.trans s4)
    all_goals
      refine w_bl ?_
      rw [if_pos (by rfl), if_pos rfl]
      tm_at "wp"
      exact k _ (Same.refl _)
theorem ok__law_scheme {P : Program} {w : World} {K : PySem.W.Frag} {mg : Str → Option Value} {base : Heap} (fr : Fre mg) (D : Dfd K mg "_law_scheme" s__law_scheme)
    (h__law_draw : Has P w K mg base CX0 1 "_law_draw" s__law_draw ["_law_pool_here", "_law_many"] (sp__law_draw K))
    (h__law_path : Has P w K mg base CX0 3 "_law_path" s__law_path ["_law_pool_here", "_law_words_here", "_law_many", "_law_most"] (sp__law_path K)) : Has P w K mg base CX0 4 "_law_scheme" s__law_scheme ["_law_pool_here", "_law_words_here", "_law_most_paths", "_law_most_runs", "_law_most"] (sp__law_scheme K) := by
  refine D.has sc__law_scheme (fun vs H Q E h => ?_) (fun cdv A outer s H vs Q E hr hg h => ?_)
  · obtain ⟨p, a, ws, m, n, q, rfl, _⟩ := h; rfl
  · obtain ⟨p, a, ws, m, n, q, rfl, hp, ha, hw0, hw1, hwn, hm, hn, q0, q1, k⟩ := h
    have nd := sc__law_scheme.nd
    refine ⟨_, PSs.nox (pss_one (ps_ret (pe_callTy (k_tuple K) rfl fr.tuple_ (by decide +kernel) (pa_cons (pe_lc (own := [("_law_turn", 5)]) (g := gName 5) (tt := tYes) rfl nd (pi_range1 rfl fr.range_ (pa_cons (pe_fn h__law_draw pb__law_draw (hr.mono (by decide)) hg rfl pass0 (pa_cons (pv 0) (pa_cons (pe_op op_add (pv 2) pe_int) pa_nil))) pa_nil)) (blkOk_by (own := [("_law_turn", 5)]) (N := N__law_scheme) (sc := defScope s__law_scheme) (by decide +kernel)) (fun _ _ _ _ _ => (pg_name (i := 5) nd rfl (Or.inl rfl))) (fun _ _ _ _ _ => pts_nil) (fun _ _ _ _ _ => (pe_fn h__law_path pb__law_path (hr.mono (by decide)) hg rfl pass0 (pa_cons (pv 0) (pa_cons (pv 1) (pa_cons (pv 3) (pa_cons (pv 4) pa_nil))))))) pa_nil)))), ?_⟩
    try dsimp only [cxOf]
    tm_at "wp"
    refine ⟨p, _, rfl, hp, by omega, by omega, fun r H1 r0 r1 s1 => ?_⟩
    obtain ⟨r, rfl⟩ := Int.eq_ofNat_of_zero_le r0
    tm_at "wp"
    refine w_onR1 ⟨by omega, by omega⟩ ?_
    have er : ((r : Nat) : Int).toNat = r := by omega
    rw [er]
    intro D hD
    refine lc_dat K walk_range (n := r) (by omega) (fun _ d => ∃ rs, (OrdOk rs ∧ rs.length ≤ n ∧ (∀ x ∈ rs, x.1 ∈ ws) ∧ ∀ x ∈ rs, x.2 ≤ 10 ^ 30) ∧ d = bagD rs) hD (fun _ _ => trivial) ?_ ?_ mono_gname
    · rintro i y G1 G2 hi s ⟨rfl, rfl⟩ Qy hq
      refine w_gname ⟨rfl, ?_⟩
      tm_at "wp"
      refine ⟨p, a, ws, n, q, rfl, by tm_at "heap", (s1.trans s).seq ha, hw0, by omega, by omega, q0, q1, fun v rs G3 s3 hd hl hmm hpos h30 _ => ?_⟩
      exact hq _ _ _ s3 hd (flat_bag rs) ⟨rs, ⟨ord_of hmm hwn hpos (by omega) hw1, hl, hmm, h30⟩, rfl⟩
    intro acc ds H2 s2 _ hacc hdp hfl hdl hR
    obtain ⟨rss, e, h1, h2⟩ := ds_any (f := bagD) (G := fun rs => OrdOk rs ∧ rs.length ≤ n ∧ (∀ x ∈ rs, x.1 ∈ ws) ∧ ∀ x ∈ rs, x.2 ≤ 10 ^ 30) hR
    rw [e] at hdp
    tm_at "wp"
    refine w_tupL (SqL.of hacc) ?_
    intro T hT
    exact k (.ref T) rss _ (by tm_at "same") (.tup (SqT.of upd_same) (dps_same (same_new hT) hdp)) (by omega) h1
theorem ok__law_gathered {P : Program} {w : World} {K : PySem.W.Frag} {mg : Str → Option Value} {base : Heap} (fr : Fre mg) (D : Dfd K mg "_law_gathered" s__law_gathered)
    (h__law_flat : Has P w K mg base CX0 1 "_law_flat" s__law_flat ["_law_held"] (sp__law_flat K)) : Has P w K mg base CX0 2 "_law_gathered" s__law_gathered ["_law_runs"] (sp__law_gathered K) := by
  refine D.has sc__law_gathered (fun vs H Q E h => ?_) (fun cdv A outer s H vs Q E hr hg h => ?_)
  · obtain ⟨l, xs, rs, rfl, _⟩ := h; rfl
  · obtain ⟨l, xs, rs, rfl, hl, hx, hp, hn, hn2, k⟩ := h
    have nd := sc__law_gathered.nd
    refine ⟨_, PSs.nox (pss_cons (ps_set (i := 1) nd rfl (Or.inl rfl) pe_dnewK)
      (pss_cons (ps_for PassesOwn.never rfl (k_iList K (pv 0)) (k_gtup K rfl (pgs_cons (pg_name (i := 2) nd rfl (Or.inl rfl)) (pgs_cons (pg_name (i := 3) nd rfl (Or.inl rfl)) pgs_nil)))
        (pss_one (ps_dput (hu_of hr) (pv 1) (pv 2) (pe_op op_add (pe_dget2 (hu_of hr) (pv 1) (pv 2) pe_int ⟨rfl, rfl, rfl, rfl⟩) (pv 3)) rfl)))
      (pss_one (ps_ret (pe_fn h__law_flat pb__law_flat (hr.mono (by decide)) hg rfl pass0 (pa_cons (pv 1) pa_nil)))))), ?_⟩
    try dsimp only [cxOf]
    have hxl : xs.length = rs.length := by rw [dps_len hx, List.length_map]
    tm_at "wp"
    rename_i d hd0
    refine w_onL (xs := xs) (SqL.of (by tm_at "heap")) ?_
    refine for_go (walk_list (xs := xs)) (fun i σ H' => ∃ u w, σ = [some (.ref l), some (.ref d), u, w] ∧ Same H H' ∧ H' d = some (.dK (kvOf (tabOf (rs.take i))))) ⟨none, none, rfl, same_new hd0, upd_same⟩ (fun i σ H' _ ⟨_, _, _, s, _⟩ => SqL.of (s _ _ hl)) ?_ ?_
    · rintro i v σ H1 H2 hi ⟨u, w, rfl, s1, hd1⟩ ⟨rfl, hy⟩
      obtain ⟨p, b, e1, rfl, hb⟩ := bag_get hx hy
      have hlen : (tabOf (rs.take i)).length ≤ 10000 := by have := tabOf_len (rs.take i); rw [List.length_take] at this; omega
      refine w_gtup (sqt_same s1 hb) rfl ?_
      tm_at "wp"
      refine w_isD hd1 ?_
      tm_at "wp"
      refine w_dgetk hd1 ?_
      rw [kv_get]
      tm_at "wp"
      refine w_dputk hd1 (by rw [kv_len]; exact sz_lt (by omega)) ?_
      tm_at "wp"
      refine ⟨_, _, rfl, same_mut s1 hd0, ?_⟩
      rw [kv_put, upd_same, take_succ_snoc e1, tabOf_snoc]
      rfl
    · rintro σ H1 ⟨u, w, rfl, s1, hd1⟩
      rw [List.take_of_length_le (by omega)] at hd1
      have ht := tab_ok hp
      tm_at "wp"
      refine ⟨d, _, rfl, hd1, ht.nd, by omega, fun n hn => (mem_keys ht).mp hn, fun v ps H2 s2 hv hcan hl2 hm => ?_⟩
      exact k v ps H2 (s1.trans s2) hv hcan hl2 hm
theorem ok__law_all_runs {P : Program} {w : World} {K : PySem.W.Frag} {mg : Str → Option Value} {base : Heap} (fr : Fre mg) (D : Dfd K mg "_law_all_runs" s__law_all_runs) : Has P w K mg base CX0 1 "_law_all_runs" s__law_all_runs ["_law_scheme_here"] (sp__law_all_runs K) := by
  refine D.has sc__law_all_runs (fun vs H Q E h => ?_) (fun cdv A outer s H vs Q E hr hg h => ?_)
  · obtain ⟨v, rss, rfl, _⟩ := h; rfl
  · obtain ⟨v, rss, rfl, hv, hl, k⟩ := h
    have nd := sc__law_all_runs.nd
    refine ⟨_, PSs.nox (pss_cons (ps_set (i := 1) nd rfl (Or.inl rfl) (pe_lst pa_nil))
      (pss_cons (ps_for PassesOwn.never rfl (k_iTup K (pv 0)) (pg_name (i := 2) nd rfl (Or.inl rfl))
        (pss_one (ps_expr (k_bm K PySem.F.plainAttrs_list PySem.F.slot_list_extend PySem.F.type_list_extend (k_extT K) (pv 1) (pa_cons (pv 2) pa_nil)))))
      (pss_one (ps_ret (pv 1))))), ?_⟩
    try dsimp only [cxOf]
    obtain ⟨a, xs, rfl, hs, hx⟩ := dp_tup_inv hv
    have hxl : xs.length = rss.length := by rw [dps_len hx, List.length_map]
    tm_at "wp"
    rename_i l hl0
    refine w_onT (xs := xs) (sqt_same (same_new hl0) hs) ?_
    refine for_go (walk_tup (xs := xs)) (fun i σ H' => ∃ (u2 : Option V) (zs : List V), σ = [some (.ref a), some (.ref l), u2] ∧ Same H H' ∧ H' l = some (.lst zs) ∧ DpAll K H' zs ((rss.take i).flatten.map pairD)) ⟨none, [], rfl, same_new hl0, upd_same, by simp; exact .nil⟩ (fun i σ H' _ ⟨_, _, _, s, _⟩ => sqt_same s hs) ?_ ?_
    · rintro i y σ H3 H4 hi ⟨u2, zs, rfl, s3, hl3, hd3⟩ ⟨rfl, hy⟩
      obtain ⟨d, e1, hdy⟩ := dps_get hx hy
      rw [List.getElem?_map] at e1
      obtain ⟨rs, e2, rfl⟩ : ∃ rs, rss[i]? = some rs ∧ bagD rs = d := by
        cases h : rss[i]? with
        | none => rw [h] at e1; cases e1
        | some rs => rw [h] at e1; exact ⟨rs, rfl, Option.some.inj e1⟩
      obtain ⟨ra, ys, rfl, hrs, hry, hrl⟩ := bag_inv hdy
      have hzl : zs.length = ((rss.take i).flatten).length := by rw [dps_len hd3, List.length_map]
      have hf1 := flat_len rss i
      have hf2 := flat_len rss (i + 1)
      rw [take_flat e2, List.length_append] at hf2
      tm_at "wp"
      refine w_tyL hl3 ?_
      tm_at "wp"
      refine w_extendT hl3 (sqt_same s3 hrs) (sz_le (by omega)) ?_
      tm_at "wp"
      have st : SameT H4 (upd H4 l (.lst (zs ++ ys))) := SameT.lst hl3
      refine ⟨_, zs ++ ys, rfl, same_mut s3 hl0, upd_same, ?_⟩
      rw [take_flat e2, List.map_append]
      exact dps_app (dps_flat st hd3 (flat_bag _)) (dps_flat st (dps_same s3 hry) (flat_bag rs))
    · rintro σ H3 ⟨u2, zs, rfl, s3, hl3, hd3⟩
      rw [List.take_of_length_le (by omega)] at hd3
      tm_at "wp"
      exact k l zs _ s3 hl3 hd3
theorem ok__law_bent {P : Program} {w : World} {K : PySem.W.Frag} {mg : Str → Option Value} {base : Heap} (fr : Fre mg) (D : Dfd K mg "_law_bent" s__law_bent)
    (h__law_draw : Has P w K mg base CX0 1 "_law_draw" s__law_draw ["_law_pool_here", "_law_many"] (sp__law_draw K)) : Has P w K mg base CX0 2 "_law_bent" s__law_bent ["_law_pool_here", "_law_scheme_here"] (sp__law_bent K) := by
  refine D.has sc__law_bent (fun vs H Q E h => ?_) (fun cdv A outer s H vs Q E hr hg h => ?_)
  · obtain ⟨p, v, rss, rfl, _⟩ := h; rfl
  · obtain ⟨p, v, rss, rfl, hp, hd, hl, hrw, k⟩ := h
    have nd := sc__law_bent.nd
    refine ⟨_, PSs.nox (pss_cons (ps_set (i := 2) nd rfl (Or.inl rfl) (pe_lst (pa_cons pe_non (pa_cons pe_int (pa_cons pe_bl (pa_cons pe_str (pa_cons (pe_lst pa_nil) (pa_cons pe_dnewK (pa_cons (pe_tup (pa_cons pe_str (pa_cons pe_int pa_nil))) (pa_cons (pe_tup (pa_cons (pe_tup (pa_cons pe_str (pa_cons pe_int pa_nil))) pa_nil)) (pa_cons (pe_tup (pa_cons (pe_tup (pa_cons pe_str (pa_cons pe_bl pa_nil))) pa_nil)) (pa_cons (pe_tup (pa_cons (pe_tup pa_nil) pa_nil)) (pa_cons (pe_tup pa_nil) pa_nil)))))))))))))
      (pss_cons (ps_set (i := 2) nd rfl (Or.inl rfl) (pe_op op_cat (pv 2) (pe_lst (pa_cons (pe_tup (pa_cons (pe_tup (pa_cons pe_str (pa_cons pe_int pa_nil))) pa_nil)) (pa_cons (pe_tup (pa_cons (pe_tup (pa_cons pe_str (pa_cons pe_int pa_nil))) pa_nil)) (pa_cons (pe_tup (pa_cons (pe_tup (pa_cons pe_str (pa_cons pe_int pa_nil))) pa_nil)) (pa_cons (pe_tup (pa_cons (pe_tup (pa_cons pe_str (pa_cons pe_int (pa_cons pe_int pa_nil)))) pa_nil)) (pa_cons (pe_tup (pa_cons (pe_lst (pa_cons pe_str (pa_cons pe_int pa_nil))) pa_nil)) (pa_cons (pe_lst (pa_cons (pe_tup (pa_cons pe_str (pa_cons pe_int pa_nil))) pa_nil)) (pa_cons (pe_tup (pa_cons (pe_tup (pa_cons pe_str (pa_cons pe_str pa_nil))) pa_nil)) pa_nil))))))))))
      (pss_cons (ps_set (i := 2) nd rfl (Or.inl rfl) (pe_op op_cat (pv 2) (pe_lst (pa_cons (pe_tup (pa_cons (pe_tup (pa_cons (pe_lst (pa_cons pe_str pa_nil)) (pa_cons pe_int pa_nil))) pa_nil)) (pa_cons (pe_tup (pa_cons (pe_tup (pa_cons pe_dnewK (pa_cons pe_int pa_nil))) pa_nil)) (pa_cons (pe_tup (pa_cons (pe_tup (pa_cons pe_str (pa_cons (pe_lst (pa_cons pe_int pa_nil)) pa_nil))) pa_nil)) (pa_cons (pe_tup (pa_cons (pe_tup (pa_cons pe_str (pa_cons pe_dnewK pa_nil))) pa_nil)) pa_nil)))))))
      (pss_cons (ps_par (i := 3) (j := 2) rfl nd rfl rfl (by decide) rfl rfl (pa_cons (pe_fn h__law_draw pb__law_draw (hr.mono (by decide)) hg rfl pass0 (pa_cons (pv 0) (pa_cons (pe_op op_add (pe_callB (k_len K) rfl fr.len_ (by decide +kernel) (pa_cons (pv 1) pa_nil)) pe_int) pa_nil))) (pa_cons (pe_ix (k_ixL K) (pv 2) (pe_fn h__law_draw pb__law_draw (hr.mono (by decide)) hg rfl pass0 (pa_cons (pv 0) (pa_cons pe_int pa_nil))) (fun _ _ => rfl)) pa_nil)) rfl)
      (pss_cons (ps_par (i := 4) (j := 5) rfl nd rfl rfl (by decide) rfl rfl (pa_cons (pe_slice (k_slT K) (pv 1) po_none (po_some (pv 3))) (pa_cons (pe_slice (k_slT K) (pv 1) (po_some (pv 3)) po_none) pa_nil)) rfl)
      (pss_cons (ps_set (i := 6) nd rfl (Or.inl rfl) (pe_lst (pa_cons (pe_op (k_catT K) (pe_op (k_catT K) (pv 4) (pe_tup (pa_cons (pv 2) pa_nil))) (pv 5)) (pa_cons (pe_op (k_catT K) (pe_op (k_catT K) (pv 4) (pe_tup (pa_cons (pv 2) pa_nil))) (pe_slice (k_slT K) (pv 5) (po_some pe_int) po_none)) (pa_cons (pe_callTy (k_list K) rfl fr.list_ (by decide +kernel) (pa_cons (pv 1) pa_nil)) (pa_cons (k_revT K (pv 1)) (pa_cons (pv 2) pa_nil)))))))
      (pss_one (ps_ret (pe_ix (k_ixL K) (pv 6) (pe_fn h__law_draw pb__law_draw (hr.mono (by decide)) hg rfl pass0 (pa_cons (pv 0) (pa_cons pe_int pa_nil))) (fun _ _ => rfl)))))))))), ?_⟩
    try dsimp only [cxOf]
    tm_at "wq"
    refine gl_asg (K := K) (ds := podd1) (by tm_at "gd") fun l xs H1 s1 hl1 hx1 => ?_
    tm_at "wq"
    refine gl_asg (K := K) (ds := podd1 ++ podd2) (gl_cat (gl_var (by with_unfolding_all exact rfl) hl1 hx1) (by tm_at "gd") rfl) fun l2 xs2 H2 s2 hl2 hx2 => ?_
    tm_at "wq"
    refine gl_asg (K := K) (ds := (podd1 ++ podd2) ++ podd3) (gl_cat (gl_var (by with_unfolding_all exact rfl) hl2 hx2) (by tm_at "gd") rfl) fun l3 xs3 H3 s3 hl3 hx3 => ?_
    have s03 := (s1.trans s2).trans s3
    have hp3 := s03 _ _ hp
    have hd3 := dx_same s03 hd
    obtain ⟨a, xs, rfl, hsx, hxx⟩ := dx_tup_inv hd3
    have hxl : xs.length = rss.length := by rw [dxs_len hxx, List.length_map]
    tm_at "wp"
    refine w_lenT hsx ?_
    tm_at "wp"
    refine ⟨p, _, rfl, hp3, by omega, by omega, fun r H4 r0 r1 s4 => ?_⟩
    tm_at "wp"
    refine ⟨p, 22, rfl, s4 _ _ hp3, by decide, by decide, fun j H5 j0 j1 s5 => ?_⟩
    have hl22 : xs3.length = 22 := by rw [dxs_len hx3]; rfl
    have s35 := s4.trans s5
    have hg : xs3[j.toNat]? = some xs3[j.toNat] := List.getElem?_eq_getElem (by omega)
    refine w_ixL (SqL.of (s35 _ _ hl3)) (v := xs3[j.toNat]) (at_of' (j := j.toNat) (by omega) hg) ?_
    obtain ⟨o, eo1, eo2⟩ := dxs_get hx3 hg
    obtain ⟨oK, oW, oM⟩ := podds_ok o (List.mem_of_getElem? eo1)
    have ho5 := dx_same s35 eo2
    have hd5 := dx_same s35 hd3
    have hp5 := s35 _ _ hp3
    have s05 := s03.trans s35
    generalize xs3[j.toNat] = vo at *
    clear eo1 eo2 hg hx3 hl3 hl22 s35 s5 s4 hd3 hsx hxx s03 s3 s2 s1 hx2 hx1 hl2 hl1
    tm_at "wp"
    refine w_slX hd5 fun vA H6 s6 dA => ?_
    tm_at "wp"
    refine w_slX (dx_same s6 hd5) fun vB H7 s7 dB => ?_
    have s57 := s6.trans s7
    have dA7 := dx_same s7 dA
    have ho7 := dx_same s57 ho5
    have hd7 := dx_same s57 hd5
    have hp7 := s57 _ _ hp5
    have s07 := s05.trans s57
    clear s57 s6 s7 s05 dA ho5 hd5 hp5
    tm_at "wq"
    generalize hS : (((((((List.set (L2.start N__law_bent [V.ref p, V.ref a]) 2 (some (V.ref l))).set 2 (some (V.ref l2))).set 2 (some (V.ref l3))).set 3 (some (V.int r))).set 2 (some vo)).set 4 (some vA)).set 5 (some vB)) = S
    have eA : GivesD K S H7 (tVar 4) _ := gd_var (by rw [← hS]; with_unfolding_all exact rfl) dA7
    have eB : GivesD K S H7 (tVar 5) _ := gd_var (by rw [← hS]; with_unfolding_all exact rfl) dB
    have eo : GivesD K S H7 (tVar 2) _ := gd_var (by rw [← hS]; with_unfolding_all exact rfl) ho7
    have es : GivesD K S H7 (tVar 1) _ := gd_var (by rw [← hS]; with_unfolding_all exact rfl) hd7
    have hDl : (rss.map bagD).length ≤ 5 := by rw [List.length_map]; exact hl
    have hrD : ∀ d ∈ rss.map bagD, rowK d = true ∧ d.hasDict = false ∧ noL d = true := fun d hd => by
      obtain ⟨rs, h1, rfl⟩ := List.mem_map.mp hd
      exact hrw rs h1
    generalize rss.map bagD = D at *
    have q1 := cutL_len D none (some r)
    have q2 := cutL_len D (some r) none
    have q3 := cutL_len (cutL D (some r) none) (some 1) none
    refine gl_asg (K := K) (gl_lst (ga_cons (gd_catT (gd_catT eA (gd_tup (ga_cons eo ga_nil) rfl) (by show _ + 1 ≤ 100000; omega)) eB (by rw [List.length_append]; show _ + 1 + _ ≤ 100000; omega)) (ga_cons (gd_catT (gd_catT eA (gd_tup (ga_cons eo ga_nil) rfl) (by show _ + 1 ≤ 100000; omega)) (gd_slL eB) (by rw [List.length_append]; show _ + 1 + _ ≤ 100000; omega)) (ga_cons (gd_listT es) (ga_cons (gd_revT es (by omega)) (ga_cons eo ga_nil))))) rfl) fun l xs H8 s8 hl8 hx8 => ?_
    subst hS
    tm_at "wp"
    refine ⟨p, 5, rfl, s8 _ _ hp7, by decide, by decide, fun i H9 i0 i1 s9 => ?_⟩
    have xl : xs.length = 5 := by rw [dxs_len hx8]; rfl
    have hg : xs[i.toNat]? = some xs[i.toNat] := List.getElem?_eq_getElem (by omega)
    refine w_ixL (SqL.of (s9 _ _ hl8)) (v := xs[i.toNat]) (at_of' (j := i.toNat) (by omega) hg) ?_
    obtain ⟨dz, f1, f2⟩ := dxs_get hx8 hg
    refine k _ dz _ (s07.trans (s8.trans s9)) (dx_same s9 f2) ?_
    have mix : ∀ ds : List PyData, (∀ d ∈ ds, d ∈ D ∨ d = o) → ds.length ≤ 20 → OddP (.tuple ds) := fun ds h hl => oddP_tup (fun d hd => (h d hd).elim (fun z => (hrD d z).1) (fun e => e ▸ oK)) hl (topL_mix oM fun d hd => (h d hd).imp (fun z => (hrD d z).2) id)
    have hmem := List.mem_of_getElem? f1
    simp only [List.mem_cons, List.not_mem_nil, or_false] at hmem
    rcases hmem with rfl | rfl | rfl | rfl | rfl
    · refine mix _ (fun d hd => ?_) (by rw [List.length_append, List.length_append]; show _ + 1 + _ ≤ 20; omega)
      rcases List.mem_append.mp hd with h | h
      · rcases List.mem_append.mp h with h | h
        · exact .inl (cut_mem d h)
        · exact .inr (List.mem_singleton.mp h)
      · exact .inl (cut_mem d h)
    · refine mix _ (fun d hd => ?_) (by rw [List.length_append, List.length_append]; show _ + 1 + _ ≤ 20; omega)
      rcases List.mem_append.mp hd with h | h
      · rcases List.mem_append.mp h with h | h
        · exact .inl (cut_mem d h)
        · exact .inr (List.mem_singleton.mp h)
      · exact .inl (cut_mem d (cut_mem d h))
    · refine oddP_lst (fun d hd => (hrD d hd).1) (by omega) ?_
      show (!(PyData.list D).hasDict || noLs D) = true
      rw [noLs_all fun d hd => (hrD d hd).2.2]; simp
    · exact mix _ (fun d hd => .inl (List.mem_reverse.mp hd)) (by rw [List.length_reverse]; omega)
    · exact wholeK_odd oW
theorem ok__law_one_right {P : Program} {w : World} {K : PySem.W.Frag} {mg : Str → Option Value} {base : Heap} (fr : Fre mg) (D : Dfd K mg "_law_one_right" s__law_one_right)
    (h__law_is_scheme : Has P w K mg base CX0 3 "_law_is_scheme" s__law_is_scheme ["_law_held"] (sp__law_is_scheme K))
    (h_is_plan : Has P w K mg base CX0 7 "is_plan" s_is_plan ["thing"] (sp_is_plan K))
    (h_plan_arrivals : Has P w K mg base CX0 8 "plan_arrivals" s_plan_arrivals ["plan"] (sp_plan_arrivals K))
    (h__law_gathered : Has P w K mg base CX0 2 "_law_gathered" s__law_gathered ["_law_runs"] (sp__law_gathered K))
    (h__law_all_runs : Has P w K mg base CX0 1 "_law_all_runs" s__law_all_runs ["_law_scheme_here"] (sp__law_all_runs K)) : Has P w K mg base CX0 9 "_law_one_right" s__law_one_right ["_law_held"] (sp__law_one_right K) := by
  refine D.has sc__law_one_right (fun vs H Q E h => ?_) (fun cdv A outer s H vs Q E hr hg h => ?_)
  · obtain ⟨v, d, rfl, _⟩ := h; rfl
  · obtain ⟨v, d, rfl, hd, hO, k⟩ := h
    have nd := sc__law_one_right.nd
    refine ⟨_, PSs.nox (pss_cons (ps_par (i := 1) (j := 2) rfl nd rfl rfl (by decide) rfl rfl (pa_cons (pe_callB (k_reprX K hg hr.units) rfl fr.repr_ (by decide +kernel) (pa_cons (pv 0) pa_nil)) (pa_cons (pe_fn h__law_is_scheme pb__law_is_scheme (hr.mono (by decide)) hg rfl pass0 (pa_cons (pv 0) pa_nil)) pa_nil)) rfl)
      (pss_cons (ps_if (pt_cmpR op_ne (pe_callB (k_repr K hg hr.units) rfl fr.repr_ (by decide +kernel) (pa_cons (pe_lst (pa_cons (pe_fn h_is_plan pb_is_plan (hr.mono (by decide)) hg rfl pass0 (pa_cons (pv 0) pa_nil)) (pa_cons (pe_fnK0 h_is_plan kb_is_plan_0_thing kb_is_plan_0_thing_r (hr.mono (by decide)) hg rfl pass0 (pk_cons (pv 0) pk_nil)) pa_nil))) pa_nil)) (pe_callB (k_repr K hg hr.units) rfl fr.repr_ (by decide +kernel) (pa_cons (pe_op op_rep (pe_lst (pa_cons (pv 2) pa_nil)) pe_int) pa_nil)) (nomark _)) (pss_one (ps_ret pe_bl)) pss_nil)
      (pss_cons (ps_if (pt_val (pv 2)) (pss_cons (ps_set (i := 3) nd rfl (Or.inl rfl) (pe_lst (pa_cons (pe_fn h_plan_arrivals pb_plan_arrivals (hr.mono (by decide)) hg rfl pass0 (pa_cons (pv 0) pa_nil)) (pa_cons (pe_fnK0 h_plan_arrivals kb_plan_arrivals_0_plan kb_plan_arrivals_0_plan_r (hr.mono (by decide)) hg rfl pass0 (pk_cons (pv 0) pk_nil)) pa_nil))))
      (pss_one (ps_if (pt_cmpR op_ne (pe_callB (k_repr K hg hr.units) rfl fr.repr_ (by decide +kernel) (pa_cons (pv 3) pa_nil)) (pe_callB (k_repr K hg hr.units) rfl fr.repr_ (by decide +kernel) (pa_cons (pe_op op_rep (pe_lst (pa_cons (pe_fn h__law_gathered pb__law_gathered (hr.mono (by decide)) hg rfl pass0 (pa_cons (pe_fn h__law_all_runs pb__law_all_runs (hr.mono (by decide)) hg rfl pass0 (pa_cons (pv 0) pa_nil)) pa_nil)) pa_nil)) pe_int) pa_nil)) (nomark _)) (pss_one (ps_ret pe_bl)) pss_nil))) pss_nil)
      (pss_one (ps_ret (pe_cmpR op_eq (pe_callB (k_reprX K hg hr.units) rfl fr.repr_ (by decide +kernel) (pa_cons (pv 0) pa_nil)) (pv 1) (nomark _))))))), ?_⟩
    try dsimp only [cxOf]
    have est : ∀ a0 : V, L2.start N__law_one_right [a0] = [some a0, none, none, none] := fun _ => rfl
    simp only [est]
    clear est
    tm_at "vp"
    refine w_reprX hd hO.shows ?_
    tm_at "vp"
    refine ⟨v, d, rfl, hd, hO, fun H1 s1 => ?_⟩
    tm_at "vp"
    refine ⟨v, d, rfl, dx_same s1 hd, hO.sz, fun H2 s2 => ?_⟩
    have s02 := s1.trans s2
    tm_at "vp"
    refine ⟨v, d, rfl, dx_same s02 hd, hO.sz, fun H3 s3 => ?_⟩
    have s03 := s02.trans s3
    tm_at "vp"
    rename_i L hL
    refine w_repr (d := .list [.bool (planX d), .bool (planX d)]) (.lst (SqL.of upd_same) (.cons (.bl _) (.cons (.bl _) .nil))) (shows_two_bl _) ?_
    tm_at "vp"
    rename_i M hM
    refine w_rep upd_same ⟨by decide, by decide⟩ (by show 1 * 2 ≤ 100000; decide) ?_
    intro W hW
    tm_at "vp"
    refine w_repr (d := .list [.bool (planX d), .bool (planX d)]) (.lst (SqL.of upd_same) (.cons (.bl _) (.cons (.bl _) .nil))) (shows_two_bl _) ?_
    tm_at "vp"
    rw [decide_eq_true rfl, if_neg (by decide)]
    have s04 : Same H (upd (upd (upd H3 L (HO.lst [V.bl (planX d), V.bl (planX d)])) M (HO.lst [V.bl (planX d)])) W (HO.lst (List.replicate (Int.toNat 2) [V.bl (planX d)]).flatten)) := s03.trans ((same_new hL).trans ((same_new hM).trans (same_new hW)))
    generalize upd (upd (upd H3 L (HO.lst [V.bl (planX d), V.bl (planX d)])) M (HO.lst [V.bl (planX d)])) W (HO.lst (List.replicate (Int.toNat 2) [V.bl (planX d)]).flatten) = H4 at s04
    clear hL hM hW s03 s3 s02 s2 s1
    have fin : ∀ σ : L2.St, σ[1]? = some (some (.str d.shown)) → ∀ H', Same H H' → rReprX K [v] H' fun x H1 => tVar 1 σ H1 fun y H2 => rEq x y H2 Q := fun σ hσ H' s' => by
      refine w_reprX (dx_same s' hd) hO.shows ?_
      refine ⟨_, hσ, ?_⟩
      tm_at "vp"
      rw [decide_eq_true rfl]
      exact k _ s'
    tm_at "vp"
    by_cases hpl : planX d = true
    rotate_left
    · rw [if_neg hpl]
      tm_at "vp"
      exact fin _ (by with_unfolding_all exact rfl) _ s04
    rw [if_pos hpl]
    obtain ⟨rss, rfl, hor, hr4, hnm⟩ := planX_inv hpl
    obtain ⟨hsum, hbig⟩ := hO.big rss rfl
    have hpos : ∀ p ∈ rss.flatten, 1 ≤ p.2 := fun p hp => by
      obtain ⟨o, ho, hpo⟩ := List.mem_flatten.mp hp
      exact (hor o ho).pos p hpo
    have hnam : ∀ p ∈ rss.flatten, isName p.1 = true := fun p hp => by
      obtain ⟨o, ho, hpo⟩ := List.mem_flatten.mp hp
      exact (hor o ho).nam p hpo
    have htl : (tabOf rss.flatten).length ≤ 12 := by
      have := congrArg List.length (tabOf_keys rss.flatten)
      rw [List.length_map] at this
      omega
    have hz : szDs (rss.map bagD) = true := by simpa [szD] using hO.sz
    have hlen := flat_len rss rss.length
    rw [List.take_of_length_le (Nat.le_refl _)] at hlen
    tm_at "vp"
    refine ⟨v, rss, rfl, dx_same s04 hd, hz, hpl, hpos, by omega, by omega, fun x1 ps H5 s5 d5 can5 l5 m5 => ?_⟩
    have s05 := s04.trans s5
    tm_at "vp"
    refine ⟨v, rss, rfl, dx_same s05 hd, hz, hpl, hpos, by omega, by omega, fun x2 qs H6 s6 d6 can6 l6 m6 => ?_⟩
    cases (can_unique can6 can5)
    have s06 := s05.trans s6
    have d5 := dp_same s6 d5
    clear s6 s5 s05 can6 l6 m6 s04
    have hB : BagS ps := fun p hp => by
      have h1 := m5 p hp
      have h2 : isName p.1 = true := by
        have h1 : p.1 ∈ (tabOf rss.flatten).map (·.1) := h1
        rw [tabOf_keys] at h1
        obtain ⟨q, hq, e⟩ := List.mem_map.mp (namesOf_mem.mp h1)
        rw [← e]
        exact hnam q hq
      have h3 := can_nam can5 hp
      have h4 := can5.pos p hp
      have h0 : ∀ q ∈ rss.flatten, 0 ≤ q.2 := fun q hq => by have := hpos q hq; omega
      have h5 := cnt_le h0 p.1
      have h6 := cnt_pos h0 p.1
      have h7 := sum_lit (n := 4000) hbig (by decide) (by omega)
      have h8 : (10 : Int) ^ 90 * (4000 : Nat) ≤ 10 ^ 100 := by decide
      have h3 : posI (getT (tabOf rss.flatten) p.1) = p.2 := h3
      rw [getT_tabOf, posI_of h6] at h3
      exact ⟨h2, by omega, by omega⟩
    have shw : Shows (.list [bagD ps, bagD ps]) := two_shows hB hB (by omega) (by omega)
    tm_at "vp"
    rename_i L hL
    have dL := dp_same (same_new hL (u := HO.lst [x1, x2])) d5
    have dL2 := dp_same (same_new hL (u := HO.lst [x1, x2])) d6
    refine w_repr (d := .list [bagD ps, bagD ps]) (.lst (SqL.of upd_same) (.cons dL (.cons dL2 .nil))) shw ?_
    have s07 := s06.trans (same_new hL (u := HO.lst [x1, x2]))
    generalize upd H6 L (HO.lst [x1, x2]) = H7 at *
    clear hL s06 d6 d5 dL dL2
    tm_at "vp"
    refine ⟨v, rss, rfl, dp_same s07 (dx_bags hd), by omega, fun l xs H8 s8 hl8 hx8 => ?_⟩
    tm_at "vp"
    refine ⟨l, xs, rss.flatten, rfl, hl8, hx8, hpos, by omega, by omega, fun x3 rs H9 s9 d9 can9 l9 m9 => ?_⟩
    cases (can_unique can9 can5)
    have s09 := s07.trans (s8.trans s9)
    tm_at "vp"
    rename_i M hM
    refine w_rep upd_same ⟨by decide, by decide⟩ (by show 1 * 2 ≤ 100000; decide) ?_
    intro W hW
    have sMW := (same_new hM (u := HO.lst [x3])).trans (same_new hW (u := HO.lst (List.replicate (Int.toNat 2) [x3]).flatten))
    have d9 := dp_same sMW d9
    tm_at "vp"
    refine w_repr (d := .list [bagD ps, bagD ps]) (.lst (SqL.of upd_same) (.cons d9 (.cons d9 .nil))) shw ?_
    tm_at "vp"
    rw [decide_eq_true rfl, if_neg (by decide)]
    tm_at "vp"
    exact fin _ (by with_unfolding_all exact rfl) _ (s09.trans sMW)
theorem ok__law_large_right {P : Program} {w : World} {K : PySem.W.Frag} {mg : Str → Option Value} {base : Heap} (fr : Fre mg) (D : Dfd K mg "_law_large_right" s__law_large_right)
    (h__law_one_right : Has P w K mg base CX0 9 "_law_one_right" s__law_one_right ["_law_held"] (sp__law_one_right K)) : Has P w K mg base CX0 10 "_law_large_right" s__law_large_right [] (sp__law_large_right K) := by
  refine D.has sc__law_large_right (fun vs H Q E h => ?_) (fun cdv A outer s H vs Q E hr hg h => ?_)
  · obtain ⟨rfl, _⟩ := h; rfl
  · obtain ⟨rfl, k⟩ := h
    have nd := sc__law_large_right.nd
    refine ⟨_, PSs.nox (pss_cons (ps_set (i := 0) nd rfl (Or.inl rfl) pe_str)
      (pss_cons (ps_set (i := 1) nd rfl (Or.inl rfl) (pe_lst (pa_cons (pe_op (k_repT K) (pe_tup (pa_cons (pe_tup pa_nil) pa_nil)) pe_int) (pa_cons (pe_op (k_repT K) (pe_tup (pa_cons (pe_tup pa_nil) pa_nil)) pe_int) (pa_cons (pe_tup (pa_cons (pe_op (k_repT K) (pe_tup (pa_cons (pe_tup (pa_cons pe_str (pa_cons pe_int pa_nil))) pa_nil)) pe_int) pa_nil)) (pa_cons (pe_tup (pa_cons (pe_op (k_repTB K) (pe_tup (pa_cons (pe_tup (pa_cons pe_str (pa_cons pe_int pa_nil))) pa_nil)) pe_int) pa_nil)) (pa_cons (pe_callTy (k_tuple K) rfl fr.tuple_ (by decide +kernel) (pa_cons (pe_lc (own := [("_law_x", 2)]) (g := gName 2) (tt := tYes) rfl nd (pi_str (pv 0)) (blkOk_by (own := [("_law_x", 2)]) (N := N__law_large_right) (sc := defScope s__law_large_right) (by decide +kernel)) (fun _ _ _ _ _ => (pg_name (i := 2) nd rfl (Or.inl rfl))) (fun _ _ _ _ _ => pts_nil) (fun _ _ _ _ _ => (pe_tup (pa_cons (pe_tup (pa_cons (pv 2) (pa_cons pe_int pa_nil))) pa_nil)))) pa_nil)) pa_nil)))))))
      (pss_cons (ps_set (i := 1) nd rfl (Or.inl rfl) (pe_op op_cat (pv 1) (pe_lst (pa_cons (pe_callTy (k_tuple K) rfl fr.tuple_ (by decide +kernel) (pa_cons (pe_lc (own := [("_law_x", 2)]) (g := gName 2) (tt := tYes) rfl nd (pi_str (pe_slice sl_str (pv 0) po_none (po_some pe_int))) (blkOk_by (own := [("_law_x", 2)]) (N := N__law_large_right) (sc := defScope s__law_large_right) (by decide +kernel)) (fun _ _ _ _ _ => (pg_name (i := 2) nd rfl (Or.inl rfl))) (fun _ _ _ _ _ => pts_nil) (fun _ _ _ _ _ => (pe_tup (pa_cons (pe_tup (pa_cons (pv 2) (pa_cons pe_int pa_nil))) pa_nil)))) pa_nil)) (pa_cons (pe_op (k_repT K) (pe_tup (pa_cons (pe_callTy (k_tuple K) rfl fr.tuple_ (by decide +kernel) (pa_cons (pe_lc (own := [("_law_x", 2)]) (g := gName 2) (tt := tYes) rfl nd (pi_str (pe_slice sl_str (pv 0) po_none (po_some pe_int))) (blkOk_by (own := [("_law_x", 2)]) (N := N__law_large_right) (sc := defScope s__law_large_right) (by decide +kernel)) (fun _ _ _ _ _ => (pg_name (i := 2) nd rfl (Or.inl rfl))) (fun _ _ _ _ _ => pts_nil) (fun _ _ _ _ _ => (pe_tup (pa_cons (pv 2) (pa_cons pe_int pa_nil))))) pa_nil)) pa_nil)) pe_int) pa_nil)))))
      (pss_cons (ps_set (i := 1) nd rfl (Or.inl rfl) (pe_op op_cat (pv 1) (pe_lst (pa_cons (pe_tup (pa_cons (pe_callTy (k_tuple K) rfl fr.tuple_ (by decide +kernel) (pa_cons (pe_lc (own := [("_law_x", 2)]) (g := gName 2) (tt := tYes) rfl nd (pi_str (pe_slice sl_str (pv 0) po_none (po_some pe_int))) (blkOk_by (own := [("_law_x", 2)]) (N := N__law_large_right) (sc := defScope s__law_large_right) (by decide +kernel)) (fun _ _ _ _ _ => (pg_name (i := 2) nd rfl (Or.inl rfl))) (fun _ _ _ _ _ => pts_nil) (fun _ _ _ _ _ => (pe_tup (pa_cons (pv 2) (pa_cons pe_int pa_nil))))) pa_nil)) (pa_cons (pe_tup (pa_cons (pe_tup (pa_cons pe_str (pa_cons (pe_op op_pow pe_int pe_int) pa_nil))) pa_nil)) pa_nil))) (pa_cons (pe_tup (pa_cons (pe_tup (pa_cons (pe_tup (pa_cons pe_str (pa_cons pe_int pa_nil))) pa_nil)) pa_nil)) (pa_cons pe_non (pa_cons pe_str (pa_cons pe_int (pa_cons pe_dnewK pa_nil)))))))))
      (pss_one (ps_ret (pe_callB (k_all K rfl) rfl fr.all_ (by decide +kernel) (pa_cons (pe_lc (own := [("_law_held", 3)]) (g := gName 3) (tt := tYes) rfl nd (k_iList K (pv 1)) (blkOk_by (own := [("_law_held", 3)]) (N := N__law_large_right) (sc := defScope s__law_large_right) (by decide +kernel)) (fun _ _ _ _ _ => (pg_name (i := 3) nd rfl (Or.inl rfl))) (fun _ _ _ _ _ => pts_nil) (fun _ _ _ _ _ => (pe_fn h__law_one_right pb__law_one_right (hr.mono (by decide)) hg rfl pass0 (pa_cons (pv 3) pa_nil)))) pa_nil)))))))), ?_⟩
    try dsimp only [cxOf]
    tm_at "wq"
    refine gd_asg (K := K) (d := .str abcm) gd_str fun v H1 s1 d1 => ?_
    cases dx_str_inv d1
    tm_at "wq"
    refine gl_asg (K := K) (ds := bg1) (gl_lst (ga_cons (gd_repT (n := 400) (gd_tup (ga_cons (gd_tup ga_nil rfl) ga_nil) rfl) (List.cons_ne_nil _ _) (by decide) (by decide) (by decide)) (ga_cons (gd_repT (n := 401) (gd_tup (ga_cons (gd_tup ga_nil rfl) ga_nil) rfl) (List.cons_ne_nil _ _) (by decide) (by decide) (by decide)) (ga_cons (gd_tup (ga_cons (gd_repT (n := 1000) (gd_tup (ga_cons (gd_tup (ga_cons gd_str (ga_cons gd_int ga_nil)) rfl) ga_nil) rfl) (List.cons_ne_nil _ _) (by decide) (by decide) (by decide)) ga_nil) rfl) (ga_cons (gd_tup (ga_cons (gd_repB (n := 1001) (gd_tup (ga_cons (gd_tup (ga_cons gd_str (ga_cons gd_int ga_nil)) rfl) ga_nil) rfl) (List.cons_ne_nil _ _) (by decide) (by decide) (by decide)) ga_nil) rfl) (ga_cons (gd_lcS (f := fun x => .tuple [.tuple [.str x, .int 2]]) (gd_var (by with_unfolding_all exact rfl) (.str _)) (by decide +kernel) (fun _ => rfl) (fun _ => rfl) (fun c H2 => (gd_tup (ga_cons (gd_tup (ga_cons (gd_var (by with_unfolding_all exact rfl) (.str _)) (ga_cons gd_int ga_nil)) rfl) ga_nil) rfl))) ga_nil))))) rfl) fun l xs H2 s2 hl2 hx2 => ?_
    tm_at "wq"
    refine gl_asg (K := K) (ds := bg1 ++ bg2) (gl_cat (gl_var (by with_unfolding_all exact rfl) hl2 hx2) (gl_lst (ga_cons (gd_lcS (f := fun x => .tuple [.tuple [.str x, .int 2]]) (gd_slc (gd_var (by with_unfolding_all exact rfl) (.str _)) (by decide +kernel)) (by decide +kernel) (fun _ => rfl) (fun _ => rfl) (fun c H2 => (gd_tup (ga_cons (gd_tup (ga_cons (gd_var (by with_unfolding_all exact rfl) (.str _)) (ga_cons gd_int ga_nil)) rfl) ga_nil) rfl))) (ga_cons (gd_repT (n := 2) (gd_tup (ga_cons (gd_lcS (f := fun x => .tuple [.str x, .int 1]) (gd_slc (gd_var (by with_unfolding_all exact rfl) (.str _)) (by decide +kernel)) (by decide +kernel) (fun _ => rfl) (fun _ => rfl) (fun c H2 => (gd_tup (ga_cons (gd_var (by with_unfolding_all exact rfl) (.str _)) (ga_cons gd_int ga_nil)) rfl))) ga_nil) rfl) (List.cons_ne_nil _ _) (by decide) (by decide) (by decide)) ga_nil)) rfl) rfl) fun l3 xs3 H3 s3 hl3 hx3 => ?_
    tm_at "wq"
    refine gl_asg (K := K) (ds := (bg1 ++ bg2) ++ bg3) (gl_cat (gl_var (by with_unfolding_all exact rfl) hl3 hx3) (gl_lst (ga_cons (gd_tup (ga_cons (gd_lcS (f := fun x => .tuple [.str x, .int 1]) (gd_slc (gd_var (by with_unfolding_all exact rfl) (.str _)) (by decide +kernel)) (by decide +kernel) (fun _ => rfl) (fun _ => rfl) (fun c H2 => (gd_tup (ga_cons (gd_var (by with_unfolding_all exact rfl) (.str _)) (ga_cons gd_int ga_nil)) rfl))) (ga_cons (gd_tup (ga_cons (gd_tup (ga_cons gd_str (ga_cons (gd_pow (i := 10) (j := 30) (by unfold CPow; decide)) ga_nil)) rfl) ga_nil) rfl) ga_nil)) rfl) (ga_cons (gd_tup (ga_cons (gd_tup (ga_cons (gd_tup (ga_cons gd_str (ga_cons gd_int ga_nil)) rfl) ga_nil) rfl) ga_nil) rfl) (ga_cons gd_non (ga_cons gd_str (ga_cons gd_int (ga_cons gd_dct ga_nil)))))) rfl) rfl) fun l4 xs4 H4 s4 hl4 hx4 => ?_
    have s04 := s1.trans (s2.trans (s3.trans s4))
    have xl : xs4.length = 13 := by rw [dxs_len hx4]; rfl
    clear hx2 hx3 hl2 hl3 s4 s3 s2 s1
    tm_at "wp"
    refine w_onL (SqL.of hl4) ?_
    intro D2 hD2
    refine lc_map (walk_list (xs := xs4)) (by omega) (fun i y => y = .bl true) hD2 (fun _ s => SqL.of (s _ _ hl4)) ?_ ?_ mono_gname
    · rintro i y G1 G2 hi sg ⟨rfl, hy⟩ Qy hq
      obtain ⟨d, e1, e2⟩ := dxs_get hx4 hy
      refine w_gname ⟨rfl, ?_⟩
      tm_at "wp"
      exact ⟨y, d, rfl, dx_same sg e2, bgs_ok d (List.mem_of_getElem? e1), fun G3 s3 => hq _ _ s3 rfl⟩
    intro acc2 H7 s7 _ ha2 hl2 hf2
    have e : acc2 = (List.replicate acc2.length true).map V.bl := by
      refine List.ext_getElem? fun i => ?_
      cases z : acc2[i]? with
      | none => rw [List.getElem?_eq_none (by simpa using List.getElem?_eq_none_iff.mp z)]
      | some y =>
        rw [hf2 i y z]
        obtain ⟨h, _⟩ := List.getElem?_eq_some_iff.mp z
        simp [h]
    rw [e] at ha2
    tm_at "wp"
    refine w_all (SqL.of ha2) ?_
    have e9 : (List.replicate acc2.length true).all id = true := by simp
    rw [e9]
    exact k _ (s04.trans s7)
theorem ok__law_right {P : Program} {w : World} {K : PySem.W.Frag} {mg : Str → Option Value} {base : Heap} (fr : Fre mg) (D : Dfd K mg "_law_right" s__law_right)
    (h__law_words : Has P w K mg base CX0 2 "_law_words" s__law_words ["_law_pool_here", "_law_many"] (sp__law_words K))
    (h__law_draw : Has P w K mg base CX0 1 "_law_draw" s__law_draw ["_law_pool_here", "_law_many"] (sp__law_draw K))
    (h__law_scheme : Has P w K mg base CX0 4 "_law_scheme" s__law_scheme ["_law_pool_here", "_law_words_here", "_law_most_paths", "_law_most_runs", "_law_most"] (sp__law_scheme K))
    (h__law_bent : Has P w K mg base CX0 2 "_law_bent" s__law_bent ["_law_pool_here", "_law_scheme_here"] (sp__law_bent K))
    (h__law_one_right : Has P w K mg base CX0 9 "_law_one_right" s__law_one_right ["_law_held"] (sp__law_one_right K)) : Has P w K mg base CX0 10 "_law_right" s__law_right ["_law_pool_here"] (sp__law_right K) := by
  refine D.has sc__law_right (fun vs H Q E h => ?_) (fun cdv A outer s H vs Q E hr hg h => ?_)
  · obtain ⟨p, rfl, _⟩ := h; rfl
  · obtain ⟨p, rfl, hp, k⟩ := h
    have nd := sc__law_right.nd
    refine ⟨_, PSs.nox (pss_cons (ps_set (i := 1) nd rfl (Or.inl rfl) (pe_fn h__law_words pb__law_words (hr.mono (by decide)) hg rfl pass0 (pa_cons (pv 0) (pa_cons (pe_op op_add pe_int (pe_fn h__law_draw pb__law_draw (hr.mono (by decide)) hg rfl pass0 (pa_cons (pv 0) (pa_cons pe_int pa_nil)))) pa_nil))))
      (pss_cons (ps_set (i := 2) nd rfl (Or.inr rfl) (pe_fn h__law_scheme pb__law_scheme (hr.mono (by decide)) hg rfl pass0 (pa_cons (pv 0) (pa_cons (pv 1) (pa_cons pe_int (pa_cons pe_int (pa_cons pe_int pa_nil)))))))
      (pss_one (ps_ret (pe_callB (k_all K rfl) rfl fr.all_ (by decide +kernel) (pa_cons (pe_lc (own := [("_law_held", 3)]) (g := gName 3) (tt := tYes) rfl nd (k_iList K (pe_op op_cat (pe_lst (pa_cons (pv 2) pa_nil)) (pe_lc (own := [("_law_turn", 4)]) (g := gName 4) (tt := tYes) rfl nd (pi_range1 rfl fr.range_ (pa_cons pe_int pa_nil)) (blkOk_by (own := [("_law_turn", 4)]) (N := N__law_right) (sc := defScope s__law_right) (by decide +kernel)) (fun _ _ _ _ _ => (pg_name (i := 4) nd rfl (Or.inl rfl))) (fun _ _ _ _ _ => pts_nil) (fun _ _ _ _ _ => (pe_hide (pe_fn h__law_bent pb__law_bent (hr.mono (by decide)) hg rfl pass0 (pa_cons (pv 0) (pa_cons (pv 2) pa_nil)))))))) (blkOk_by (own := [("_law_held", 3)]) (N := N__law_right) (sc := defScope s__law_right) (by decide +kernel)) (fun _ _ _ _ _ => (pg_name (i := 3) nd rfl (Or.inl rfl))) (fun _ _ _ _ _ => pts_nil) (fun _ _ _ _ _ => (pe_fn h__law_one_right pb__law_one_right (hr.mono (by decide)) hg rfl pass0 (pa_cons (pv 3) pa_nil)))) pa_nil)))))), ?_⟩
    try dsimp only [cxOf]
    tm_at "wp"
    refine ⟨p, 11, rfl, hp, by decide, by decide, fun n1 H1 n10 n11 s1 => ?_⟩
    tm_at "wp"
    refine ⟨p, _, rfl, s1 _ _ hp, by omega, by omega, fun a1 ws H2 ha1 s2 hs1 hw1 => ?_⟩
    have s02 := s1.trans s2
    have wl : ws.length = (1 + n1).toNat := hw1.len
    have wp0 : 0 < ws.length := by omega
    tm_at "wp"
    refine ⟨p, a1, ws, 5, 6, 0, rfl, s02 _ _ hp, SqL.of hs1, wp0, by omega, fun w hw => hw1.nam w hw, by decide, by decide, by decide, by decide, fun v rss H3 s3 hd3 hl3 hr3 => ?_⟩
    have s03 := s02.trans s3
    have hrw : ∀ rs ∈ rss, rowK (bagD rs) = true ∧ (bagD rs).hasDict = false ∧ noL (bagD rs) = true := fun rs hrs => by
      obtain ⟨h1, h2, h3, h4⟩ := hr3 rs hrs
      exact rowK_of h1 (by omega) h4
    have hO : OddP (.tuple (rss.map bagD)) := oddP_tup (fun d hd => by
      obtain ⟨rs, h1, rfl⟩ := List.mem_map.mp hd
      exact (hrw rs h1).1) (by rw [List.length_map]; omega) (topL_mix (o := .none) (.inl rfl) fun d hd => by
      obtain ⟨rs, h1, rfl⟩ := List.mem_map.mp hd
      exact .inl (hrw rs h1).2)
    have hp3 := s03 _ _ hp
    clear s02 s1 s2 s3 hs1 ha1
    tm_at "wp"
    rename_i L hL
    have s3L := same_new hL (u := HO.lst [v])
    have hdL := dp_dx (dp_same s3L hd3)
    have hpL := s3L _ _ hp3
    have hLL := @upd_same H3 L (HO.lst [v])
    have s0L := s03.trans s3L
    generalize upd H3 L (HO.lst [v]) = H4 at *
    clear s3L s03 hd3 hp3 hL
    refine w_onR1 ⟨by decide, by decide⟩ ?_
    intro D hD
    refine lc_hid K walk_range (by decide) (fun _ d => OddP d) hD (fun _ _ => trivial) 4 ?_ (fun _ _ _ _ h => h.1) ?_
    · rintro i x G1 G2 hi ⟨_, rfl⟩ sg
      refine ⟨rfl, fun Qy hq => ?_⟩
      tm_at "wp"
      exact ⟨p, v, rss, rfl, sg _ _ hpL, dx_same sg hdL, hl3, hrw, fun y d H5 s5 d5 o5 => hq y d H5 s5 d5 o5⟩
    intro acc ds H5 s5 _ hacc hdx hdl hR
    tm_at "wp"
    refine w_cat (s5 _ _ hLL) hacc (sz_le (by rw [dxs_len hdx, hdl]; show 1 + 8 ≤ 100000; decide)) ?_
    intro W hW
    have s6 := s5.trans (same_new hW (u := HO.lst ([v] ++ acc)))
    have hall : ∀ y ∈ [v] ++ acc, ∃ d, Dx K (upd H5 W (HO.lst ([v] ++ acc))) y d ∧ OddP d := fun y hy => by
      rcases List.mem_append.mp hy with hy | hy
      · rw [List.mem_singleton.mp hy]
        exact ⟨_, dx_same s6 hdL, hO⟩
      · obtain ⟨i, hi⟩ := List.mem_iff_getElem?.mp hy
        obtain ⟨d, e1, e2⟩ := dxs_get hdx hi
        exact ⟨d, dx_same (same_new hW) e2, hR i d e1⟩
    have hWL := @upd_same H5 W (HO.lst ([v] ++ acc))
    have hlen : ([v] ++ acc).length ≤ 100000 := by rw [List.length_append, dxs_len hdx, hdl]; show 1 + 8 ≤ 100000; decide
    generalize upd H5 W (HO.lst ([v] ++ acc)) = H6 at *
    refine w_onL (SqL.of hWL) ?_
    intro D2 hD2
    refine lc_map (walk_list (xs := [v] ++ acc)) hlen (fun i y => y = .bl true) hD2 (fun _ s => SqL.of (s _ _ hWL)) ?_ ?_ mono_gname
    · rintro i y G1 G2 hi sg ⟨rfl, hy⟩ Qy hq
      obtain ⟨d, e1, e2⟩ := hall y (List.mem_of_getElem? hy)
      refine w_gname ⟨rfl, ?_⟩
      tm_at "wp"
      exact ⟨y, d, rfl, dx_same sg e1, e2, fun G3 s3 => hq _ _ s3 rfl⟩
    intro acc2 H7 s7 _ ha2 hl2 hf2
    have e : acc2 = (List.replicate acc2.length true).map V.bl := by
      refine List.ext_getElem? fun i => ?_
      cases z : acc2[i]? with
      | none => rw [List.getElem?_eq_none (by simpa using List.getElem?_eq_none_iff.mp z)]
      | some y =>
        rw [hf2 i y z]
        obtain ⟨h, _⟩ := List.getElem?_eq_some_iff.mp z
        simp [h]
    rw [e] at ha2
    tm_at "wp"
    refine w_all (SqL.of ha2) ?_
    have e9 : (List.replicate acc2.length true).all id = true := by simp
    rw [e9]
    exact k _ (s0L.trans (s6.trans s7))
theorem ok_law {P : Program} {w : World} {K : PySem.W.Frag} {mg : Str → Option Value} {base : Heap} (fr : Fre mg) (D : Dfd K mg "law" s_law)
    (h__law_large_right : Has P w K mg base CX0 10 "_law_large_right" s__law_large_right [] (sp__law_large_right K))
    (h__law_right : Has P w K mg base CX0 10 "_law_right" s__law_right ["_law_pool_here"] (sp__law_right K))
    (h__law_pool : Has P w K mg base CX0 1 "_law_pool" s__law_pool ["_law_cell_here"] (sp__law_pool K))
    (h__law_cell : Has P w K mg base CX0 1 "_law_cell" s__law_cell ["_law_script", "_law_k"] (sp__law_cell K)) : Has P w K mg base CX0 11 "law" s_law ["_law_script"] (sp_law K) := by
  refine D.has sc_law (fun vs H Q E h => ?_) (fun cdv A outer s H vs Q E hr hg h => ?_)
  · obtain ⟨a, ns, rfl, _⟩ := h; rfl
  · obtain ⟨a, ns, rfl, hs, hn, k⟩ := h
    have nd := sc_law.nd
    refine ⟨_, PSs.nox (pss_cons (ps_if (pt_not (pt_val (pe_fn0 h__law_large_right pb__law_large_right (hr.mono (by decide)) hg rfl pass0))) (pss_one (ps_ret pe_bl)) pss_nil)
      (pss_one (ps_ret (pe_callB (k_all K rfl) rfl fr.all_ (by decide +kernel) (pa_cons (pe_lc (own := [("_law_k", 1)]) (g := gName 1) (tt := tYes) rfl nd (pi_range1 rfl fr.range_ (pa_cons (pe_callB (c_max2 rfl) rfl fr.max_ (by decide +kernel) (pa_cons pe_int (pa_cons (pe_callB (c_min2 rfl) rfl fr.min_ (by decide +kernel) (pa_cons (pe_callB (k_len K) rfl fr.len_ (by decide +kernel) (pa_cons (pv 0) pa_nil)) (pa_cons pe_int pa_nil))) pa_nil))) pa_nil)) (blkOk_by (own := [("_law_k", 1)]) (N := N_law) (sc := defScope s_law) (by decide +kernel)) (fun _ _ _ _ _ => (pg_name (i := 1) nd rfl (Or.inl rfl))) (fun _ _ _ _ _ => pts_nil) (fun _ _ _ _ _ => (pe_fn h__law_right pb__law_right (hr.mono (by decide)) hg rfl pass0 (pa_cons (pe_fn h__law_pool pb__law_pool (hr.mono (by decide)) hg rfl pass0 (pa_cons (pe_fn h__law_cell pb__law_cell (hr.mono (by decide)) hg rfl pass0 (pa_cons (pv 0) (pa_cons (pv 1) pa_nil))) pa_nil)) pa_nil)))) pa_nil))))), ?_⟩
    try dsimp only [cxOf]
    tm_at "wp"
    refine ⟨rfl, fun H1 s1 => ?_⟩
    tm_at "wp"
    refine w_lenL (s1.seq hs) ?_
    tm_at "wp"
    rw [List.length_map]
    refine w_onR1 ⟨by split <;> split <;> omega, by split <;> split <;> omega⟩ ?_
    intro D1 hD1
    refine lc_map walk_range (n := _) (by split <;> split <;> omega) (fun i y => y = .bl true) hD1 (fun _ _ => trivial) ?_ ?_ mono_gname
    · rintro i y H6 H7 hi s6 ⟨rfl, rfl⟩ Qy hq
      have s06 := s1.trans s6
      refine w_gname ⟨rfl, ?_⟩
      tm_at "wp"
      refine ⟨a, ns, _, rfl, s06.seq hs, by omega, by omega, by revert hi; split <;> split <;> omega, fun n H8 s8 => ?_⟩
      tm_at "wp"
      refine ⟨n, rfl, fun p H9 hp s9 hpp => ?_⟩
      tm_at "wp"
      refine ⟨p, rfl, hpp, fun H10 s10 => ?_⟩
      exact hq _ _ ((s8.trans s9).trans s10) rfl
    · intro acc2 H6 s6 _ ha2 hl2 hf2
      have e : acc2 = (List.replicate acc2.length true).map V.bl := by
        refine List.ext_getElem? fun i => ?_
        cases z : acc2[i]? with
        | none => rw [List.getElem?_eq_none (by simpa using List.getElem?_eq_none_iff.mp z)]
        | some y =>
          rw [hf2 i y z]
          obtain ⟨h, _⟩ := List.getElem?_eq_some_iff.mp z
          simp [h]
      rw [e] at ha2
      tm_at "wp"
      refine w_all (SqL.of ha2) ?_
      have e2 : (List.replicate acc2.length true).all id = true := by simp
      rw [e2]
      exact k _
theorem facts {P : Program} {w : World} {K : PySem.W.Frag} {h : Heap} {mg : Str → Option Value} {f : Addr} (X : K.In h) (G : h.Ns mainGlobals mg) (hfa : mg ("law" : Str) = some (.ref f)) (c : He.SaysD fa fn K) :
    ∃ fd : FuncData, (∀ (s : Shared) (v : Value), BindsTo s fd ⟨[v], []⟩ [("_law_script", v)]) ∧ ∀ base : Heap, FnG P w K mg base CX0 11 f fd ["_law_script"] (sp_law K) := by
  have fr : Fre mg := ⟨He.free_ok X G (c.fact 30 (f := .free "len") rfl), He.free_ok X G (c.fact 31 (f := .free "isinstance") rfl), He.free_ok X G (c.fact 32 (f := .free "range") rfl), He.free_ok X G (c.fact 33 (f := .free "enumerate") rfl), He.free_ok X G (c.fact 34 (f := .free "zip") rfl), He.free_ok X G (c.fact 35 (f := .free "reversed") rfl), He.free_ok X G (c.fact 36 (f := .free "int") rfl), He.free_ok X G (c.fact 37 (f := .free "str") rfl), He.free_ok X G (c.fact 38 (f := .free "bool") rfl), He.free_ok X G (c.fact 39 (f := .free "tuple") rfl), He.free_ok X G (c.fact 40 (f := .free "list") rfl), He.free_ok X G (c.fact 41 (f := .free "dict") rfl), He.free_ok X G (c.fact 42 (f := .free "bytes") rfl), He.free_ok X G (c.fact 43 (f := .free "set") rfl), He.free_ok X G (c.fact 44 (f := .free "sum") rfl), He.free_ok X G (c.fact 45 (f := .free "all") rfl), He.free_ok X G (c.fact 46 (f := .free "any") rfl), He.free_ok X G (c.fact 47 (f := .free "abs") rfl), He.free_ok X G (c.fact 48 (f := .free "min") rfl), He.free_ok X G (c.fact 49 (f := .free "max") rfl), He.free_ok X G (c.fact 50 (f := .free "sorted") rfl), He.free_ok X G (c.fact 51 (f := .free "repr") rfl), He.free_ok X G (c.fact 52 (f := .free "divmod") rfl), He.free_ok X G (c.fact 53 (f := .free "type") rfl), He.free_ok X G (c.fact 54 (f := .free "map") rfl), He.free_ok X G (c.fact 55 (f := .free "iter") rfl), He.free_ok X G (c.fact 56 (f := .free "next") rfl)⟩
  have c_LETTERS : ∃ t, mg "LETTERS" = some (.str "abcdefghijklmnopqrstuvwxyz" t) := He.str_ok X G (c.fact 57 (f := .str "LETTERS" "abcdefghijklmnopqrstuvwxyz") rfl)
  have c_MAX_RUNS : ∃ t, mg "MAX_RUNS" = some (.int 1000 t) := He.int_ok X G (c.fact 58 (f := .int "MAX_RUNS" 1000) rfl)
  have c_MAX_NAMES : ∃ t, mg "MAX_NAMES" = some (.int 12 t) := He.int_ok X G (c.fact 59 (f := .int "MAX_NAMES" 12) rfl)
  have c_MAX_ORDERS : ∃ t, mg "MAX_ORDERS" = some (.int 400 t) := He.int_ok X G (c.fact 60 (f := .int "MAX_ORDERS" 400) rfl)
  have D_is_whole : Dfd K mg "is_whole" s_is_whole := ⟨c.def_ 0 (d := d_is_whole) rfl, He.glo_ok X G (c.fact 0 (f := .glo "is_whole") rfl)⟩
  have D_is_from : Dfd K mg "is_from" s_is_from := ⟨c.def_ 1 (d := d_is_from) rfl, He.glo_ok X G (c.fact 1 (f := .glo "is_from") rfl)⟩
  have D_is_name : Dfd K mg "is_name" s_is_name := ⟨c.def_ 2 (d := d_is_name) rfl, He.glo_ok X G (c.fact 2 (f := .glo "is_name") rfl)⟩
  have D_is_run : Dfd K mg "is_run" s_is_run := ⟨c.def_ 3 (d := d_is_run) rfl, He.glo_ok X G (c.fact 3 (f := .glo "is_run") rfl)⟩
  have D_table_of : Dfd K mg "table_of" s_table_of := ⟨c.def_ 4 (d := d_table_of) rfl, He.glo_ok X G (c.fact 4 (f := .glo "table_of") rfl)⟩
  have D_counts_of_table : Dfd K mg "counts_of_table" s_counts_of_table := ⟨c.def_ 5 (d := d_counts_of_table) rfl, He.glo_ok X G (c.fact 5 (f := .glo "counts_of_table") rfl)⟩
  have D_first_no_order : Dfd K mg "first_no_order" s_first_no_order := ⟨c.def_ 6 (d := d_first_no_order) rfl, He.glo_ok X G (c.fact 6 (f := .glo "first_no_order") rfl)⟩
  have D_is_order : Dfd K mg "is_order" s_is_order := ⟨c.def_ 7 (d := d_is_order) rfl, He.glo_ok X G (c.fact 7 (f := .glo "is_order") rfl)⟩
  have D_first_no_plan : Dfd K mg "first_no_plan" s_first_no_plan := ⟨c.def_ 8 (d := d_first_no_plan) rfl, He.glo_ok X G (c.fact 8 (f := .glo "first_no_plan") rfl)⟩
  have D_is_plan : Dfd K mg "is_plan" s_is_plan := ⟨c.def_ 9 (d := d_is_plan) rfl, He.glo_ok X G (c.fact 9 (f := .glo "is_plan") rfl)⟩
  have D_check_plan : Dfd K mg "check_plan" s_check_plan := ⟨c.def_ 10 (d := d_check_plan) rfl, He.glo_ok X G (c.fact 10 (f := .glo "check_plan") rfl)⟩
  have D_plan_arrivals : Dfd K mg "plan_arrivals" s_plan_arrivals := ⟨c.def_ 11 (d := d_plan_arrivals) rfl, He.glo_ok X G (c.fact 11 (f := .glo "plan_arrivals") rfl)⟩
  have D__law_cell : Dfd K mg "_law_cell" s__law_cell := ⟨c.def_ 12 (d := d__law_cell) rfl, He.glo_ok X G (c.fact 12 (f := .glo "_law_cell") rfl)⟩
  have D__law_pool : Dfd K mg "_law_pool" s__law_pool := ⟨c.def_ 13 (d := d__law_pool) rfl, He.glo_ok X G (c.fact 13 (f := .glo "_law_pool") rfl)⟩
  have D__law_draw : Dfd K mg "_law_draw" s__law_draw := ⟨c.def_ 14 (d := d__law_draw) rfl, He.glo_ok X G (c.fact 14 (f := .glo "_law_draw") rfl)⟩
  have D__law_words : Dfd K mg "_law_words" s__law_words := ⟨c.def_ 15 (d := d__law_words) rfl, He.glo_ok X G (c.fact 15 (f := .glo "_law_words") rfl)⟩
  have D__law_often : Dfd K mg "_law_often" s__law_often := ⟨c.def_ 16 (d := d__law_often) rfl, He.glo_ok X G (c.fact 16 (f := .glo "_law_often") rfl)⟩
  have D__law_path : Dfd K mg "_law_path" s__law_path := ⟨c.def_ 17 (d := d__law_path) rfl, He.glo_ok X G (c.fact 17 (f := .glo "_law_path") rfl)⟩
  have D__law_flat : Dfd K mg "_law_flat" s__law_flat := ⟨c.def_ 18 (d := d__law_flat) rfl, He.glo_ok X G (c.fact 18 (f := .glo "_law_flat") rfl)⟩
  have D__law_is_run : Dfd K mg "_law_is_run" s__law_is_run := ⟨c.def_ 19 (d := d__law_is_run) rfl, He.glo_ok X G (c.fact 19 (f := .glo "_law_is_run") rfl)⟩
  have D__law_is_path : Dfd K mg "_law_is_path" s__law_is_path := ⟨c.def_ 20 (d := d__law_is_path) rfl, He.glo_ok X G (c.fact 20 (f := .glo "_law_is_path") rfl)⟩
  have D__law_is_scheme : Dfd K mg "_law_is_scheme" s__law_is_scheme := ⟨c.def_ 21 (d := d__law_is_scheme) rfl, He.glo_ok X G (c.fact 21 (f := .glo "_law_is_scheme") rfl)⟩
  have D__law_scheme : Dfd K mg "_law_scheme" s__law_scheme := ⟨c.def_ 22 (d := d__law_scheme) rfl, He.glo_ok X G (c.fact 22 (f := .glo "_law_scheme") rfl)⟩
  have D__law_gathered : Dfd K mg "_law_gathered" s__law_gathered := ⟨c.def_ 23 (d := d__law_gathered) rfl, He.glo_ok X G (c.fact 23 (f := .glo "_law_gathered") rfl)⟩
  have D__law_all_runs : Dfd K mg "_law_all_runs" s__law_all_runs := ⟨c.def_ 24 (d := d__law_all_runs) rfl, He.glo_ok X G (c.fact 24 (f := .glo "_law_all_runs") rfl)⟩
  have D__law_bent : Dfd K mg "_law_bent" s__law_bent := ⟨c.def_ 25 (d := d__law_bent) rfl, He.glo_ok X G (c.fact 25 (f := .glo "_law_bent") rfl)⟩
  have D__law_one_right : Dfd K mg "_law_one_right" s__law_one_right := ⟨c.def_ 26 (d := d__law_one_right) rfl, He.glo_ok X G (c.fact 26 (f := .glo "_law_one_right") rfl)⟩
  have D__law_large_right : Dfd K mg "_law_large_right" s__law_large_right := ⟨c.def_ 27 (d := d__law_large_right) rfl, He.glo_ok X G (c.fact 27 (f := .glo "_law_large_right") rfl)⟩
  have D__law_right : Dfd K mg "_law_right" s__law_right := ⟨c.def_ 28 (d := d__law_right) rfl, He.glo_ok X G (c.fact 28 (f := .glo "_law_right") rfl)⟩
  have D_law : Dfd K mg "law" s_law := ⟨c.def_ 29 (d := d_law) rfl, He.glo_ok X G (c.fact 29 (f := .glo "law") rfl)⟩
  have e := hfa.symm.trans D_law.glo
  cases e
  obtain ⟨fd, F⟩ := D_law.ex
  have b := FunD.bindsA (ps := ["_law_script"]) F fun _ _ _ _ _ _ us hl => match us, hl with | [_], _ => rfl
  refine ⟨fd, fun s v => b s [v] rfl, fun base => ?_⟩
  have h__law_is_run : Has P w K mg base CX0 1 "_law_is_run" s__law_is_run ["_law_held"] (sp__law_is_run K) := ok__law_is_run fr D__law_is_run
  have h__law_is_path : Has P w K mg base CX0 2 "_law_is_path" s__law_is_path ["_law_held"] (sp__law_is_path K) := ok__law_is_path fr D__law_is_path h__law_is_run
  have h__law_is_scheme : Has P w K mg base CX0 3 "_law_is_scheme" s__law_is_scheme ["_law_held"] (sp__law_is_scheme K) := ok__law_is_scheme fr D__law_is_scheme h__law_is_path
  have h_is_whole : Has P w K mg base CX0 1 "is_whole" s_is_whole ["thing"] (sp_is_whole K) := ok_is_whole fr D_is_whole
  have h_is_from : Has P w K mg base CX0 2 "is_from" s_is_from ["thing", "least"] (sp_is_from K) := ok_is_from fr D_is_from h_is_whole
  have h_is_name : Has P w K mg base CX0 1 "is_name" s_is_name ["thing"] (sp_is_name K) := ok_is_name fr c_LETTERS D_is_name
  have h_is_run : Has P w K mg base CX0 3 "is_run" s_is_run ["thing"] (sp_is_run K) := ok_is_run fr D_is_run h_is_from h_is_name
  have h_first_no_order : Has P w K mg base CX0 4 "first_no_order" s_first_no_order ["thing"] (sp_first_no_order K) := ok_first_no_order fr c_MAX_RUNS c_MAX_NAMES D_first_no_order h_is_run
  have h_is_order : Has P w K mg base CX0 5 "is_order" s_is_order ["thing"] (sp_is_order K) := ok_is_order fr D_is_order h_first_no_order
  have h_first_no_plan : Has P w K mg base CX0 6 "first_no_plan" s_first_no_plan ["thing"] (sp_first_no_plan K) := ok_first_no_plan fr c_MAX_ORDERS c_MAX_NAMES D_first_no_plan h_is_order
  have h_is_plan : Has P w K mg base CX0 7 "is_plan" s_is_plan ["thing"] (sp_is_plan K) := ok_is_plan fr D_is_plan h_first_no_plan
  have h_check_plan : Has P w K mg base CX0 7 "check_plan" s_check_plan ["thing"] (sp_check_plan K) := ok_check_plan fr D_check_plan h_first_no_plan
  have h_counts_of_table : Has P w K mg base CX0 1 "counts_of_table" s_counts_of_table ["table"] (sp_counts_of_table K) := ok_counts_of_table fr D_counts_of_table
  have h_table_of : Has P w K mg base CX0 1 "table_of" s_table_of ["pairs"] (sp_table_of K) := ok_table_of fr D_table_of
  have h_plan_arrivals : Has P w K mg base CX0 8 "plan_arrivals" s_plan_arrivals ["plan"] (sp_plan_arrivals K) := ok_plan_arrivals fr D_plan_arrivals h_check_plan h_counts_of_table h_table_of
  have h__law_flat : Has P w K mg base CX0 1 "_law_flat" s__law_flat ["_law_held"] (sp__law_flat K) := ok__law_flat fr D__law_flat
  have h__law_gathered : Has P w K mg base CX0 2 "_law_gathered" s__law_gathered ["_law_runs"] (sp__law_gathered K) := ok__law_gathered fr D__law_gathered h__law_flat
  have h__law_all_runs : Has P w K mg base CX0 1 "_law_all_runs" s__law_all_runs ["_law_scheme_here"] (sp__law_all_runs K) := ok__law_all_runs fr D__law_all_runs
  have h__law_one_right : Has P w K mg base CX0 9 "_law_one_right" s__law_one_right ["_law_held"] (sp__law_one_right K) := ok__law_one_right fr D__law_one_right h__law_is_scheme h_is_plan h_plan_arrivals h__law_gathered h__law_all_runs
  have h__law_large_right : Has P w K mg base CX0 10 "_law_large_right" s__law_large_right [] (sp__law_large_right K) := ok__law_large_right fr D__law_large_right h__law_one_right
  have h__law_draw : Has P w K mg base CX0 1 "_law_draw" s__law_draw ["_law_pool_here", "_law_many"] (sp__law_draw K) := ok__law_draw fr D__law_draw
  have h__law_words : Has P w K mg base CX0 2 "_law_words" s__law_words ["_law_pool_here", "_law_many"] (sp__law_words K) := ok__law_words fr D__law_words h__law_draw
  have h__law_often : Has P w K mg base CX0 2 "_law_often" s__law_often ["_law_pool_here"] (sp__law_often K) := ok__law_often fr D__law_often h__law_draw
  have h__law_path : Has P w K mg base CX0 3 "_law_path" s__law_path ["_law_pool_here", "_law_words_here", "_law_many", "_law_most"] (sp__law_path K) := ok__law_path fr D__law_path h__law_draw h__law_often
  have h__law_scheme : Has P w K mg base CX0 4 "_law_scheme" s__law_scheme ["_law_pool_here", "_law_words_here", "_law_most_paths", "_law_most_runs", "_law_most"] (sp__law_scheme K) := ok__law_scheme fr D__law_scheme h__law_draw h__law_path
  have h__law_bent : Has P w K mg base CX0 2 "_law_bent" s__law_bent ["_law_pool_here", "_law_scheme_here"] (sp__law_bent K) := ok__law_bent fr D__law_bent h__law_draw
  have h__law_right : Has P w K mg base CX0 10 "_law_right" s__law_right ["_law_pool_here"] (sp__law_right K) := ok__law_right fr D__law_right h__law_words h__law_draw h__law_scheme h__law_bent h__law_one_right
  have h__law_pool : Has P w K mg base CX0 1 "_law_pool" s__law_pool ["_law_cell_here"] (sp__law_pool K) := ok__law_pool fr D__law_pool
  have h__law_cell : Has P w K mg base CX0 1 "_law_cell" s__law_cell ["_law_script", "_law_k"] (sp__law_cell K) := ok__law_cell fr D__law_cell
  have h_law : Has P w K mg base CX0 11 "law" s_law ["_law_script"] (sp_law K) := ok_law fr D_law h__law_large_right h__law_right h__law_pool h__law_cell
  exact h_law.fixed F
end TP
open PySem PySem.W PySem.Calls PyProof.Rows
set_option maxRecDepth 100000 in
set_option maxHeartbeats 0 in
theorem PySem.Challenge.cw_tallyplans_k43_merge_plans_holds : PySem.Challenge.rw_tallyplans_k43_merge_plans.Holds := by
  w_on; o_law
  refine HandSHeadRun.head_any (r := OpenLaw.row PySem.Challenge.rw_tallyplans_k43_merge_plans) (q := view (OpenLaw.row PySem.Challenge.rw_tallyplans_k43_merge_plans).prog [41]) (H := TP.hk) (ob := TP.ob) (M := 6000) (loose := TP.loose) (d := HandSHeadRun.topDef (OpenLaw.row PySem.Challenge.rw_tallyplans_k43_merge_plans).prog 41) (kwd := []) TP.ob_eq
    (by kernel_rfl) (fun s => by kernel_rfl) TP.run (by kernel_rfl) (by kernel_rfl) (by kernel_rfl) (by rfl) (by first | assumption | decide +kernel) (by decide +kernel) ⟨rfl, rfl, rfl, rfl, rfl, by decide +kernel⟩ ?hw ?hc
  case hw => w_witness2
  case hc =>
    refine TP.walkG (l := PySem.Challenge.rw_tallyplans_k43_merge_plans) (n := 63) (k := 11) (x := "_law_script") rfl (by decide) (by kernel_rfl) ⟨rfl, by decide, by decide⟩ ?F
    intro w mg fa h Y G hmg0
    obtain ⟨K, KX, c⟩ := Y
    have hmg : mg ("law" : PySem.Str) = some (.ref fa) := by
      have e : (HandSHeadRun.topDef (OpenLaw.row PySem.Challenge.rw_tallyplans_k43_merge_plans).prog 41).name = ("law" : PySem.Str) := by kernel_rfl
      rw [← e]
      exact hmg0
    obtain ⟨fd, hb, hF⟩ := TP.facts (P := (PySem.Challenge.rw_tallyplans_k43_merge_plans).prog) (w := w) KX G hmg c
    exact ⟨K, fd, TP.sp_law K, KX, hb, fun H a ns hl hS => ⟨a, ns, rfl, hS, hl, fun _ => rfl⟩, fun base _ _ => hF base⟩
